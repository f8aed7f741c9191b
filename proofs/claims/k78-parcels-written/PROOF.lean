import PyProof.Rows.All
import HandS.HeadHook4
import Wide.All
import OpenK.AllK
import Wide.FinOn
import HandS.ForMost
import HandS.Exc
import HandS.WordsExc
import HandS.Defaults
import HandS.HeadHook1
import HandS.Nested
import HandS.EndTab
import HandS.Text
import HandS.TupAny
import HandS.Zip
import HandS.Deep
import HandS.Small
import HandS.RaiseMore
import HandS.IsInst
import KE.KStateDown
import Lean
import HandS.More
import HandS.Head0
import HandS.Head1
import HandS.Head2
import HandS.HeadEnd
import HandS.HeadHook2
import HandS.EndBits
import HandS.Dict
import HandS.Codes
import PyProof.FitsReplace
import HandS.TupMul
import HandS.Strs
import PyProof.Rows.StrMeet
import HandS.CallLocal
import HandS.FStr
import HandS.SlotsOwn
import KE.KFmtOwn
import PyProof.InstEq
import HandS.WordsDict
import HandS.ExcInit
import HandS.ExcField
import HandS.ExcIs
import HandS.TryMany
import HandS.TryOnly
import KE.KExcInit
import PyProof.ExcBaseAll.RuntimeError
import PyProof.ExcBaseAll.LookupError
import KE.KExcIs
import KE.KEqNest
import PyProof.NeKinds
import HandS.DictComp
import HandS.Iter
import HandS.SortKw
import KE.SortKeyHeap
import HandS.SetBool
import HandS.Style
import HandS.Conv
import KE.GoesEnum
import PyProof.Rows.CountFlat
import KE.DataMinMax
import HandS.Flow
import HandS.TupSets
import PyProof.ReprRoads
import PyProof.RowDictHeap
import KE.GoesZip
import KE.GoesEnumKw
import PyProof.IsiTupleOf
import HandS.OwnEq
import HandS.TupLe
import PyProof.ReprNest
import PyProof.ReprDict
import KE.KDictPairs
import KE.KDictCopyH
import HandS.ReplaceLit
import PySem.Challenge.RW_wholeparcels_k78_parcels_written
set_option Elab.async false
set_option linter.all false
set_option maxRecDepth 100000
set_option maxHeartbeats 0
/-! DLA: the defs that make functions (a lambda, a def within), and the name that these have -/
namespace DL
open PySem
def lamDefs : List ((Str × Option Str) × Str) := []
end DL
/-! DL0: data as trees and cells; what an expression, a statement is worth over them. -/
namespace DL
open PySem L2

/-- a name as a number: its signs, by 256 -/
def signsOf : Nat → Nat → List Nat → List Nat
 | 0, _, acc => acc
 | f + 1, n, acc => if n = 0 then acc else signsOf f (n / 256) (n % 256 :: acc)
def nmC (n : Nat) : Str := ⟨(signsOf 64 n []).toArray⟩
/-- what the module's name with the number n stands for -/
def cl (K : PySem.W.Frag) (n : Nat) : Addr := He.ga K (nmC n)
/-- a datum: trees, and handles of cells; classes and defs by their names' numbers -/
inductive D where
 | non | bl (b : Bool) | int (i : Int) | str (x : Str)
 | tup (xs : List D) | lst (xs : List D)
 | hdl (l : Nat)
 | cst (v : V)
 | obj (C : Nat) (fs : List (Str × D))
 | glo (c : Nat)
 | exc (C : Nat) (fs : List (Str × D))
 | dtc (ks : List (List Key)) (xs : List D)

/-- a cell -/
inductive MO where
 | lst (xs : List D)
 | dct (ks : List Key) (xs : List D)
 | dtt (ks : List (List Key)) (xs : List D)
 | ins (C : Nat) (ns : List Str) (xs : List D)
 | gone
abbrev Mu := List MO

/-- S: what never changes any more; io: where each cell stands -/
structure Wd where
 S : Hp
 io : List Addr



/-- what comes out -/
inductive R (α : Type) where
 | ok (a : α) (μ : Mu)
 | ex (c : Nat) (fs : List (Str × D)) (μ : Mu)
 | bad
/-- a pure answer, or none -/
def R.of {α : Type} (o : Option α) (μ : Mu) : R α := match o with
 | some a => .ok a μ
 | none => .bad

end DL
/-! DL1: statements, targets, walks, loops, comprehensions. -/
namespace DL
open PySem L2

/-! ### a new object that never changes -/
section
variable {K : PySem.W.Frag} {W : Wd} {H : Hp} {μ : Mu} {p : Addr} {o : HO}
def Wd.new (W : Wd) (p : Addr) (o : HO) : Wd := ⟨upd W.S p o, W.io⟩
end

/-! ### a new cell, a changed cell, a frozen cell -/
section
variable {K : PySem.W.Frag} {W : Wd} {H : Hp} {μ : Mu} {p a : Addr} {l : Nat} {m m' : MO} {o o' : HO}
def Wd.cell (W : Wd) (p : Addr) : Wd := ⟨W.S, W.io ++ [p]⟩
end

/-! ### targets -/
inductive Tg where
 | nm (i : Nat)
 | tp (ts : List Tg)
mutual
def Tg.slots : Tg → List Nat
 | .nm i => [i]
 | .tp ts => Tg.slotsL ts
def Tg.slotsL : List Tg → List Nat
 | [] => []
 | t :: ts => t.slots ++ Tg.slotsL ts
end


end DL
/-! DL2: comprehensions, what is walked, displays, cells, calls of defs. -/
namespace DL
open PySem L2


/-! ### what is walked -/
section
variable {K : PySem.W.Frag} {W : Wd} {a : Addr} {vs : List V} {ds : List D}
/-- the signs of a text -/
def signs (x : Str) : List D := x.cps.toList.map fun c => .str ⟨#[c]⟩
end

end DL
/-! DL20: defs as values, isinstance of own classes, zip, != of data. -/
namespace DL
open PySem L2 PySem.Spec PyProof.Rows
/-! ### a def held by a name -/
def dfn (c : Nat) : D := .glo c
/-- a type: an own class, a built-in one -/
inductive Ty where
 | own (C : Nat) | blt (t : String)
 deriving DecidableEq
def Ty.val (K : PySem.W.Frag) : Ty → Value
 | .own C => .ref (cl K C)
 | .blt t => .type t
def Ty.d : Ty → D
 | .own C => .glo C
 | .blt t => .cst (.ty t)
end DL
/-! DL21: len(set(xs)) of texts. -/
namespace DL
open PySem L2 PySem.Spec PyProof.Rows
/-- the unlike ones, as they were met -/
def dd1 (σ : List Str) (x : Str) : List Str := if σ.any (· == x) = true then σ else σ ++ [x]
def met (xs : List Str) (i : Nat) : List Str := (xs.take i).foldl dd1 []
end DL
/-! DL25: data of the module's own, one of two readings, defs apart. -/
namespace DL
open PySem L2 PySem.Spec PyProof.Rows
/-! ### what the module holds -/
mutual
/-- the value u of the written part is the datum d -/
def holdV (K : PySem.W.Frag) : Nat → Value → D → Bool
 | _, .none, .non => true
 | _, .bool b, .bl c => b == c
 | _, .int i _, .int j => i == j
 | _, .str x _, .str y => x == y && decide (x.length ≤ 1000000)
 | n + 1, .ref a, .tup ds => match K.lookup a with
  | some o => (match o.data with
   | .seq its _ => o.cls == .type "tuple" && (decide (its.size ≤ 1000000) && holdVs K n its.toList ds)
   | _ => false)
  | none => false
 | _, _, _ => false
def holdVs (K : PySem.W.Frag) : Nat → List Value → List D → Bool
 | _, [], [] => true
 | n, u :: us, d :: ds => holdV K n u d && holdVs K n us ds
 | _, _, _ => false
end
/-- a global of the module is the datum d -/
def gloB (K : PySem.W.Frag) (x : Str) (d : D) : Bool := match PySem.W.nsIn K mainGlobals x with
 | some (some u) => holdV K 8 u d
 | _ => false
end DL
/-! DL26: facts of classes by Bools of the written part. -/
namespace DL
open PySem L2 PySem.Spec PyProof.Rows
/-- the keyword default x of the def at f, if it is an object -/
def kwAt (f : Str × Option Str) (x : Str) (K : PySem.W.Frag) : Addr := match K.lookup (He.fAd K f) with
 | some ⟨_, _, .func fd, _⟩ => (match fd.kwdefaults with
  | .ref d => (match PySem.W.nsIn K d x with
   | some (some (.ref b)) => b
   | _ => 0)
  | _ => 0)
 | _ => 0
/-- what isinstance may be asked about the class at C -/
def isCB (K : PySem.W.Frag) (C : Nat) : Bool :=
 decide (PySem.W.findIn K (.ref (cl K C)) "__class__" = some (some (.builtin "object.__class__"))) && (decide (PySem.W.specialIn K (.builtin "object.__class__") "__get__" = some (some (.builtin "getset_descriptor.__get__"))) &&
  (decide (PySem.W.takesIn K (.builtin "object.__class__") = some true) && decide (PySem.W.mroIn K (cl K C) (.type "object") = some true)))
def ktB (K : PySem.W.Frag) (c : Ty) (yes no : List Ty) : Bool :=
 yes.all (fun t => decide (PySem.W.kitOne K (t.val K) (c.val K) = some true)) && no.all fun t => decide (PySem.W.kitOne K (t.val K) (c.val K) = some false)
def basicT : List Ty := [.blt "NoneType", .blt "bool", .blt "int", .blt "str", .blt "tuple", .blt "list", .blt "dict"]
/-- the types of a right operand -/
def rightT (cs : List Nat) : List Ty := cs.map Ty.own ++ [.blt "NoneType", .blt "bool", .blt "int", .blt "str", .blt "tuple", .blt "list"]
def nfB (K : PySem.W.Frag) (C : Nat) (ts : List Ty) : Bool := ts.all fun t => PySem.W.notFirst K (cl K C) (t.val K)
end DL
/-! DL36: own exceptions over ValueError, KeyError, RuntimeError: how they are made. -/
namespace DL
open PySem L2 PySem.Spec PyProof.Rows PySem.HandSPX
abbrev keTail : List Value := [.type "KeyError", .type "LookupError", .type "Exception", .type "BaseException", .type "object"]
end DL
/-! DL37: own exceptions: __init__ of the base, fields, the call of the class. -/
namespace DL
open PySem L2 PySem.Spec PyProof.Rows PySem.HandSPX
abbrev rtTail : List Value := [.type "RuntimeError", .type "Exception", .type "BaseException", .type "object"]
end DL
/-! DL45: the facts about own exception classes as Bools, for the head. -/
namespace DL
open PySem L2 PySem.Spec PyProof.Rows PySem.HandSPX
/-- which built-in class stands under it -/
inductive Bk where
 | ve | ke | rt
def Bk.new : Bk → String
 | .ve => "ValueError.__new__"
 | .ke => "LookupError.__new__"
 | .rt => "RuntimeError.__new__"
def Bk.init : Bk → String
 | .ve => "ValueError.__init__"
 | .ke => "KeyError.__init__"
 | .rt => "RuntimeError.__init__"
def Bk.name : Bk → String
 | .ve => "ValueError"
 | .ke => "KeyError"
 | .rt => "RuntimeError"
def Bk.tail : Bk → List Value
 | .ve => veTail
 | .ke => keTail
 | .rt => rtTail
def oexB (K : PySem.W.Frag) (c : Nat) (k : Bk) : Bool := PySem.W.excInitIn K (cl K c) k.tail k.new && (PySem.W.excOver K (cl K c) k.tail && (PySem.W.hasDictIn K (cl K c) &&
 (decide (PySem.W.findIn K (.ref (cl K c)) "__setattr__" = some (some (.builtin "object.__setattr__"))) && (decide (PySem.W.subIn K (.ref (cl K c)) (.type "BaseException") = some true) &&
  (decide (PySem.W.typeIn K (.ref (cl K c)) = some (.type "type")) && PySem.W.keepIn K (.ref (cl K c)))))))
/-- the class's own __init__ is the def at f -/
def oiniB (K : PySem.W.Frag) (c : Nat) : Bool := decide (PySem.W.findIn K (.ref (cl K c)) "__init__" = some (some (.ref (He.fAd K (nmC c, some "__init__"))))) && decide (PySem.W.typeIn K (.ref (He.fAd K (nmC c, some "__init__"))) = some (.type "function"))
/-- base.__init__, the base an own class; a built-in one -/
def isVal (r : Option PySem.W.CFound) (i : String) : Bool := match r with
 | some (.val (.builtin j)) => j == i
 | _ => false
def gmB (K : PySem.W.Frag) (b : Nat) (i : String) : Bool := decide (PySem.W.specialIn K (.ref (cl K b)) "__getattribute__" = some (some (.builtin "type.__getattribute__"))) && (PySem.W.readsIn K (cl K b) (.type "type") && isVal (PySem.W.findCls K (.ref (cl K b)) (.type "type") "__init__") i)
/-- what is asked of a class whose exceptions are looked at -/
def excB (K : PySem.W.Frag) (c : Nat) : Bool := decide (PySem.W.findIn K (.ref (cl K c)) "__getattribute__" = some (some (.builtin "BaseException.__getattribute__"))) && (decide (PySem.W.findIn K (.ref (cl K c)) "__getattr__" = some none) && (decide (PySem.W.subIn K (.ref (cl K c)) (.type "BaseException") = some true) && (PySem.W.hasDictIn K (cl K c) &&
 (decide (PySem.W.findIn K (.ref (cl K c)) "__class__" = some (some (.builtin "object.__class__"))) && (decide (PySem.W.specialIn K (.builtin "object.__class__") "__get__" = some (some (.builtin "getset_descriptor.__get__"))) && (decide (PySem.W.takesIn K (.builtin "object.__class__") = some true) && decide (PySem.W.mroIn K (cl K c) (.type "object") = some true)))))))
def exmB (K : PySem.W.Frag) (cv : Value) (yes no : List Nat) : Bool := yes.all (fun c => decide (PySem.W.exmOne K (.ref (cl K c)) cv = some true)) && no.all fun c => decide (PySem.W.exmOne K (.ref (cl K c)) cv = some false)
end DL
/-! DL46: as He.hookX, the fragment reaching the statics too. -/
namespace DL
open PySem L2 He
/-- addresses not met yet (m: a bit for each one met) -/
def keepZ : List Addr → Nat → List Addr → Nat × List Addr
 | [], m, acc => (m, acc)
 | a :: r, m, acc => match Nat.beq (Nat.land (Nat.shiftRight m a) 1) 0 with
  | true => keepZ r (Nat.lor m (Nat.shiftLeft 1 a)) (a :: acc)
  | false => keepZ r m acc
def goZ (g : Addr → Option Obj) : Nat → Nat → List Addr → List Addr → List Addr
 | 0, _, fr, acc => acc ++ fr
 | n + 1, m, fr, acc => match keepZ (fr.flatMap fun a => match g a with
   | some o => refsD o
   | none => []) m [] with
  | (m2, more) => goZ g n m2 more (acc ++ fr)
def asY (g : Addr → Option Obj) (n : Nat) : List Addr := cStatics :: goZ g n (Nat.shiftLeft 1 mainGlobals) [mainGlobals] []
abbrev lamTf : List Defn := lamDefs.map (·.1)
def obsY (n : Nat) (fa : List Fa) (fn : List DefD) (ex : PySem.W.Frag → Bool) (g : Addr → Option Obj) : AlX := (obsT fa fn [] (frT g (asY g n)), ex (frT g (asY g n)) && tabsB g lamTf (frT g (asY g n)))
theorem saysY_of {n : Nat} {fa : List Fa} {fn : List DefD} {ex : PySem.W.Frag → Bool} {w : World} {h : Heap} (e : obsY n fa fn ex h.get? = valX fn [] w) : SaysX fa fn [] lamTf ex w h (frT h.get? (asY h.get? n)) := by
 have e1 : obsT fa fn [] (frT h.get? (asY h.get? n)) = valT fn [] w := congrArg (fun z : AlX => z.1) e
 have e2 : (ex (frT h.get? (asY h.get? n)) && tabsB h.get? lamTf (frT h.get? (asY h.get? n))) = true := congrArg (fun z : AlX => z.2) e
 rw [Bool.and_eq_true] at e2
 have key : ∀ p ∈ lamTf, PySem.W.codeHdIn (frT h.get? (asY h.get? n)) (cT (frT h.get? (asY h.get? n)) p).1 (cT (frT h.get? (asY h.get? n)) p).2 = true ∧ ∃ o, h.get? (cT (frT h.get? (asY h.get? n)) p).2 = some o ∧ emptyTab o = true := fun p hp => by
  have e3 := List.all_eq_true.mp e2.2 p hp
  rw [Bool.and_eq_true] at e3
  refine ⟨e3.1, ?_⟩
  have e4 := e3.2
  cases q : h.get? (cT (frT h.get? (asY h.get? n)) p).2 with
  | none => rw [q] at e4; cases e4
  | some o => rw [q] at e4; exact ⟨o, rfl, e4⟩
 refine ⟨e1, e2.1, fun p hp => (key p hp).1, fun p hp => ?_, fun p hp => ?_⟩
 ·obtain ⟨_, o, q, z⟩ := key p hp
  exact frT_none q z
 ·obtain ⟨_, o, q, z⟩ := key p hp
  rw [q, emptyTab_eq z]
def hookY (n : Nat) (fa : List Fa) (fn : List DefD) (ex : PySem.W.Frag → Bool) : PySem.W.Hook where
 α := AlX
 obs := fun s => obsY n fa fn ex s.heap.get?
 val := fun w => valX fn [] w
 says := fun w h => ∃ K : PySem.W.Frag, K.In h ∧ SaysX fa fn [] lamTf ex w h K
 of := fun _ _ e => ⟨_, frT_in, saysY_of e⟩
 keeps := fun _ _ _ ⟨K, hK, c⟩ k => ⟨K, PySem.W.Frag.In.keeps hK k, ⟨c.t, c.more, c.hd, c.out, fun p hp => k _ _ (c.empty p hp)⟩⟩
end DL
/-! DL88: zip(x, y, strict=True) walked: a list and a tuple of one length. -/
namespace DL
open PySem L2 PySem.Spec PyProof.Rows
/-- what stands in a row: a list or a tuple -/
inductive Sq | l | t
def Sq.it : Sq → Heap → Addr → Addr → Nat → Prop
 | .l => fun h it a i => h.IsListIter it a i
 | .t => fun h it a i => h.IsTupleIter it a i
end DL
/-! DL134: tables of the module: texts, and what they stand for. -/
namespace DL
open PySem L2 PySem.Spec PyProof.Rows
def rowVD (K : PySem.W.Frag) (u : Value) (d : D) : Bool := match u, d with
 | .ref a, .glo c => decide (a = cl K c)
 | u, d => holdV K 8 u d
def rowsB (K : PySem.W.Frag) : List DictEntry → List (Str × D) → Bool
 | [], [] => true
 | e :: es, (x, d) :: t => (match e.key with
  | .str y _ => decide (y = x)
  | _ => false) && (rowVD K e.val d && rowsB K es t)
 | _, _ => false
def tabKB (K : PySem.W.Frag) (c : Nat) (t : List (Str × D)) : Bool := (!(cl K c == sysModules)) && (match K.lookup (cl K c) with
 | some o => (o.cls == .type "dict") && (o.dict.isNone && (decide (o.slots.size = 0) && (match o.data with
  | .dict es _ => rowsB K es.toList t
  | _ => false)))
 | none => false)
end DL
/-! DL135: replace (with written texts behind a written text, with the module's texts); d.update(a dict of new keys). -/
namespace DL
open PySem L2 PySem.Spec PyProof.Rows
def tok2B (K : PySem.W.Frag) (x y a b : Str) : Bool := match PySem.W.nsIn K mainGlobals x, PySem.W.nsIn K mainGlobals a with
 | some (some (.str y' t)), some (some (.str b' u)) => decide (y' = y) && (decide (b' = b) && (decide (t ≠ 0) && (decide (u ≠ 0) && decide (t ≠ u))))
 | _, _ => false
end DL
/-! DL138: ORDER.index(e), ORDER the module's tuple of texts; join of a changed list. -/
namespace DL
open PySem L2 PySem.Spec PyProof.Rows
def tupKB (K : PySem.W.Frag) (n : Str) (ys : List Str) : Bool := match PySem.W.nsIn K mainGlobals n with
 | some (some (.ref a)) => (match K.lookup a with
  | some o => (o.cls == .type "tuple") && (o.dict.isNone && holdV K 8 (.ref a) (.tup (ys.map .str)))
  | none => false)
 | _ => false
end DL
namespace DL78
open PySem PySem.Spec PyProof.Rows L2 DL
/-! the text -/
def topS (i : Nat) : Stmt := PySem.Challenge.pw_wholeparcels_k78_parcels_written.main.body.getD i (.Pass ⟨0, 0, 0, 0⟩)
def clsS (i j : Nat) : Stmt := match topS i with
 | .ClassDef _ _ _ b _ _ _ _ _ _ _ => b.getD j (.Pass ⟨0, 0, 0, 0⟩)
 | s => s
abbrev s_Parcel_eq : Stmt := clsS 37 12
abbrev s_law_digits : Stmt := topS 57
abbrev s_is_name : Stmt := topS 10
abbrev s_is_path : Stmt := topS 11
abbrev s_is_tuple : Stmt := topS 21
abbrev s_is_aside : Stmt := topS 29
abbrev s_is_whole : Stmt := topS 8
abbrev s_is_from : Stmt := topS 9
abbrev s_is_choice : Stmt := topS 30
abbrev s_is_edition : Stmt := topS 19
abbrev s_is_clash : Stmt := topS 27
abbrev s_is_deed : Stmt := topS 31
abbrev s_is_worth : Stmt := topS 20
abbrev s_is_file : Stmt := topS 28
abbrev s_is_option : Stmt := topS 25
abbrev s_are_all : Stmt := topS 22
abbrev s_heads_of : Stmt := topS 24
abbrev s_is_need : Stmt := topS 26
abbrev s_rise : Stmt := topS 23
abbrev s_are_rising : Stmt := topS 33
abbrev s_are_asides : Stmt := topS 34
abbrev s_are_calls : Stmt := topS 36
abbrev s_are_choices : Stmt := topS 35
abbrev s_are_needs : Stmt := topS 32
abbrev s_Parcel_init : Stmt := clsS 37 0
abbrev s_law_parcel : Stmt := topS 63
abbrev s_law_needs : Stmt := topS 58
abbrev s_law_paths : Stmt := topS 59
abbrev s_law_parts : Stmt := topS 60
abbrev s_Parcel_ahead : Stmt := clsS 37 4
abbrev s_Parcel_asides : Stmt := clsS 37 8
abbrev s_Parcel_called : Stmt := clsS 37 1
abbrev s_Parcel_calls : Stmt := clsS 37 10
abbrev s_Parcel_choices : Stmt := clsS 37 9
abbrev s_Parcel_clashes : Stmt := clsS 37 5
abbrev s_Parcel_deeds : Stmt := clsS 37 11
abbrev s_Parcel_edition : Stmt := clsS 37 2
abbrev s_Parcel_files : Stmt := clsS 37 6
abbrev s_Parcel_needs : Stmt := clsS 37 3
abbrev s_Parcel_settings : Stmt := clsS 37 7
abbrev s_law_same : Stmt := topS 64
abbrev s_law_row : Stmt := topS 61
abbrev s_law_text : Stmt := topS 62
abbrev s_number_of : Stmt := topS 44
abbrev s_first_of : Stmt := topS 54
abbrev s_look_at_text : Stmt := topS 53
abbrev s_name_of : Stmt := topS 45
abbrev s_option_of : Stmt := topS 49
abbrev s_path_of : Stmt := topS 46
abbrev s_when_of : Stmt := topS 47
abbrev s_thing_of : Stmt := topS 50
abbrev s_read_parcel : Stmt := topS 55
abbrev s_shown_thing : Stmt := topS 51
abbrev s_show_parcel : Stmt := topS 52
abbrev s_law : Stmt := topS 65
abbrev s_NoText_init : Stmt := clsS 3 0
/-! names as numbers -/
abbrev cC_Parcel : Nat := 88379461166444
abbrev cC_NoText : Nat := 86240064272500
abbrev cC_NoParcel : Nat := 5651824436834428268
abbrev ct_FORMS : Nat := 301978504531
abbrev cv_name_of : Nat := 31069369918254950
abbrev cv_number_of : Nat := 2037603375570799783782
abbrev cv_path_of : Nat := 31632349986778982
abbrev cv_when_of : Nat := 33610307081301862
abbrev ct_READERS : Nat := 23157094710858323
abbrev cC_WholeError : Nat := 412772374296909568962418
def tx_ORDER : List Str := ["needs", "ahead", "clashes", "file", "setting", "aside", "choice", "call", "deed"]
def tab_FORMS : List (Str × D) := [("needs", .str ""), ("ahead", .str ""), ("clashes", .str "abb"), ("file", .str "pb"), ("setting", .str "pb"), ("aside", .str "pp"), ("choice", .str "ppb"), ("call", .str "a"), ("deed", .str "wab")]
def tab_READERS : List (Str × D) := [("a", dfn cv_name_of), ("b", dfn cv_number_of), ("p", dfn cv_path_of), ("w", dfn cv_when_of)]
def yes_Parcel : List Ty := [.own cC_Parcel]
def no_Parcel : List Ty := basicT ++ []
def exy_NoParcel : List Nat := []
def exn_NoParcel : List Nat := [cC_NoText]
def right_Parcel : List Ty := rightT [cC_Parcel]
end DL78
namespace DL78
open PySem PySem.Spec PyProof.Rows L2 DL
/-! the head -/
def h_Parcel_eq : He.DefD := ⟨(nmC cC_Parcel, some "__eq__"), "__eq__", "Parcel.__eq__", defArgs s_Parcel_eq, defBody s_Parcel_eq, defScope s_Parcel_eq, [], []⟩
def h_law_digits : He.DefD := ⟨("_law_digits", none), "_law_digits", "_law_digits", defArgs s_law_digits, defBody s_law_digits, defScope s_law_digits, [], []⟩
def h_is_name : He.DefD := ⟨("is_name", none), "is_name", "is_name", defArgs s_is_name, defBody s_is_name, defScope s_is_name, [], []⟩
def h_is_path : He.DefD := ⟨("is_path", none), "is_path", "is_path", defArgs s_is_path, defBody s_is_path, defScope s_is_path, [], []⟩
def h_is_tuple : He.DefD := ⟨("is_tuple", none), "is_tuple", "is_tuple", defArgs s_is_tuple, defBody s_is_tuple, defScope s_is_tuple, [], []⟩
def h_is_aside : He.DefD := ⟨("is_aside", none), "is_aside", "is_aside", defArgs s_is_aside, defBody s_is_aside, defScope s_is_aside, [], []⟩
def h_is_whole : He.DefD := ⟨("is_whole", none), "is_whole", "is_whole", defArgs s_is_whole, defBody s_is_whole, defScope s_is_whole, [], []⟩
def h_is_from : He.DefD := ⟨("is_from", none), "is_from", "is_from", defArgs s_is_from, defBody s_is_from, defScope s_is_from, [], [("least", .int 0)]⟩
def h_is_choice : He.DefD := ⟨("is_choice", none), "is_choice", "is_choice", defArgs s_is_choice, defBody s_is_choice, defScope s_is_choice, [], []⟩
def h_is_edition : He.DefD := ⟨("is_edition", none), "is_edition", "is_edition", defArgs s_is_edition, defBody s_is_edition, defScope s_is_edition, [], []⟩
def h_is_clash : He.DefD := ⟨("is_clash", none), "is_clash", "is_clash", defArgs s_is_clash, defBody s_is_clash, defScope s_is_clash, [], []⟩
def h_is_deed : He.DefD := ⟨("is_deed", none), "is_deed", "is_deed", defArgs s_is_deed, defBody s_is_deed, defScope s_is_deed, [], []⟩
def h_is_worth : He.DefD := ⟨("is_worth", none), "is_worth", "is_worth", defArgs s_is_worth, defBody s_is_worth, defScope s_is_worth, [], []⟩
def h_is_file : He.DefD := ⟨("is_file", none), "is_file", "is_file", defArgs s_is_file, defBody s_is_file, defScope s_is_file, [], []⟩
def h_is_option : He.DefD := ⟨("is_option", none), "is_option", "is_option", defArgs s_is_option, defBody s_is_option, defScope s_is_option, [], []⟩
def h_are_all : He.DefD := ⟨("are_all", none), "are_all", "are_all", defArgs s_are_all, defBody s_are_all, defScope s_are_all, [], []⟩
def h_heads_of : He.DefD := ⟨("heads_of", none), "heads_of", "heads_of", defArgs s_heads_of, defBody s_heads_of, defScope s_heads_of, [], []⟩
def h_is_need : He.DefD := ⟨("is_need", none), "is_need", "is_need", defArgs s_is_need, defBody s_is_need, defScope s_is_need, [], []⟩
def h_rise : He.DefD := ⟨("rise", none), "rise", "rise", defArgs s_rise, defBody s_rise, defScope s_rise, [], []⟩
def h_are_rising : He.DefD := ⟨("are_rising", none), "are_rising", "are_rising", defArgs s_are_rising, defBody s_are_rising, defScope s_are_rising, [], []⟩
def h_are_asides : He.DefD := ⟨("are_asides", none), "are_asides", "are_asides", defArgs s_are_asides, defBody s_are_asides, defScope s_are_asides, [], []⟩
def h_are_calls : He.DefD := ⟨("are_calls", none), "are_calls", "are_calls", defArgs s_are_calls, defBody s_are_calls, defScope s_are_calls, [], []⟩
def h_are_choices : He.DefD := ⟨("are_choices", none), "are_choices", "are_choices", defArgs s_are_choices, defBody s_are_choices, defScope s_are_choices, [], []⟩
def h_are_needs : He.DefD := ⟨("are_needs", none), "are_needs", "are_needs", defArgs s_are_needs, defBody s_are_needs, defScope s_are_needs, [], []⟩
def h_Parcel_init : He.DefD := ⟨(nmC cC_Parcel, some "__init__"), "__init__", "Parcel.__init__", defArgs s_Parcel_init, defBody s_Parcel_init, defScope s_Parcel_init, [], [("needs", .adr (kwAt (nmC cC_Parcel, some "__init__") "needs")), ("ahead", .adr (kwAt (nmC cC_Parcel, some "__init__") "ahead")), ("clashes", .adr (kwAt (nmC cC_Parcel, some "__init__") "clashes")), ("files", .adr (kwAt (nmC cC_Parcel, some "__init__") "files")), ("settings", .adr (kwAt (nmC cC_Parcel, some "__init__") "settings")), ("asides", .adr (kwAt (nmC cC_Parcel, some "__init__") "asides")), ("choices", .adr (kwAt (nmC cC_Parcel, some "__init__") "choices")), ("calls", .adr (kwAt (nmC cC_Parcel, some "__init__") "calls")), ("deeds", .adr (kwAt (nmC cC_Parcel, some "__init__") "deeds"))]⟩
def h_law_parcel : He.DefD := ⟨("_law_parcel", none), "_law_parcel", "_law_parcel", defArgs s_law_parcel, defBody s_law_parcel, defScope s_law_parcel, [], []⟩
def h_law_needs : He.DefD := ⟨("_law_needs", none), "_law_needs", "_law_needs", defArgs s_law_needs, defBody s_law_needs, defScope s_law_needs, [], []⟩
def h_law_paths : He.DefD := ⟨("_law_paths", none), "_law_paths", "_law_paths", defArgs s_law_paths, defBody s_law_paths, defScope s_law_paths, [], []⟩
def h_law_parts : He.DefD := ⟨("_law_parts", none), "_law_parts", "_law_parts", defArgs s_law_parts, defBody s_law_parts, defScope s_law_parts, [], []⟩
def h_Parcel_ahead : He.DefD := ⟨(nmC cC_Parcel, some "ahead"), "ahead", "Parcel.ahead", defArgs s_Parcel_ahead, defBody s_Parcel_ahead, defScope s_Parcel_ahead, [], []⟩
def h_Parcel_asides : He.DefD := ⟨(nmC cC_Parcel, some "asides"), "asides", "Parcel.asides", defArgs s_Parcel_asides, defBody s_Parcel_asides, defScope s_Parcel_asides, [], []⟩
def h_Parcel_called : He.DefD := ⟨(nmC cC_Parcel, some "called"), "called", "Parcel.called", defArgs s_Parcel_called, defBody s_Parcel_called, defScope s_Parcel_called, [], []⟩
def h_Parcel_calls : He.DefD := ⟨(nmC cC_Parcel, some "calls"), "calls", "Parcel.calls", defArgs s_Parcel_calls, defBody s_Parcel_calls, defScope s_Parcel_calls, [], []⟩
def h_Parcel_choices : He.DefD := ⟨(nmC cC_Parcel, some "choices"), "choices", "Parcel.choices", defArgs s_Parcel_choices, defBody s_Parcel_choices, defScope s_Parcel_choices, [], []⟩
def h_Parcel_clashes : He.DefD := ⟨(nmC cC_Parcel, some "clashes"), "clashes", "Parcel.clashes", defArgs s_Parcel_clashes, defBody s_Parcel_clashes, defScope s_Parcel_clashes, [], []⟩
def h_Parcel_deeds : He.DefD := ⟨(nmC cC_Parcel, some "deeds"), "deeds", "Parcel.deeds", defArgs s_Parcel_deeds, defBody s_Parcel_deeds, defScope s_Parcel_deeds, [], []⟩
def h_Parcel_edition : He.DefD := ⟨(nmC cC_Parcel, some "edition"), "edition", "Parcel.edition", defArgs s_Parcel_edition, defBody s_Parcel_edition, defScope s_Parcel_edition, [], []⟩
def h_Parcel_files : He.DefD := ⟨(nmC cC_Parcel, some "files"), "files", "Parcel.files", defArgs s_Parcel_files, defBody s_Parcel_files, defScope s_Parcel_files, [], []⟩
def h_Parcel_needs : He.DefD := ⟨(nmC cC_Parcel, some "needs"), "needs", "Parcel.needs", defArgs s_Parcel_needs, defBody s_Parcel_needs, defScope s_Parcel_needs, [], []⟩
def h_Parcel_settings : He.DefD := ⟨(nmC cC_Parcel, some "settings"), "settings", "Parcel.settings", defArgs s_Parcel_settings, defBody s_Parcel_settings, defScope s_Parcel_settings, [], []⟩
def h_law_same : He.DefD := ⟨("_law_same", none), "_law_same", "_law_same", defArgs s_law_same, defBody s_law_same, defScope s_law_same, [], []⟩
def h_law_row : He.DefD := ⟨("_law_row", none), "_law_row", "_law_row", defArgs s_law_row, defBody s_law_row, defScope s_law_row, [], []⟩
def h_law_text : He.DefD := ⟨("_law_text", none), "_law_text", "_law_text", defArgs s_law_text, defBody s_law_text, defScope s_law_text, [], []⟩
def h_number_of : He.DefD := ⟨("number_of", none), "number_of", "number_of", defArgs s_number_of, defBody s_number_of, defScope s_number_of, [], []⟩
def h_first_of : He.DefD := ⟨("first_of", none), "first_of", "first_of", defArgs s_first_of, defBody s_first_of, defScope s_first_of, [], []⟩
def h_look_at_text : He.DefD := ⟨("look_at_text", none), "look_at_text", "look_at_text", defArgs s_look_at_text, defBody s_look_at_text, defScope s_look_at_text, [], []⟩
def h_name_of : He.DefD := ⟨("name_of", none), "name_of", "name_of", defArgs s_name_of, defBody s_name_of, defScope s_name_of, [], []⟩
def h_option_of : He.DefD := ⟨("option_of", none), "option_of", "option_of", defArgs s_option_of, defBody s_option_of, defScope s_option_of, [], []⟩
def h_path_of : He.DefD := ⟨("path_of", none), "path_of", "path_of", defArgs s_path_of, defBody s_path_of, defScope s_path_of, [], []⟩
def h_when_of : He.DefD := ⟨("when_of", none), "when_of", "when_of", defArgs s_when_of, defBody s_when_of, defScope s_when_of, [], []⟩
def h_thing_of : He.DefD := ⟨("thing_of", none), "thing_of", "thing_of", defArgs s_thing_of, defBody s_thing_of, defScope s_thing_of, [], []⟩
def h_read_parcel : He.DefD := ⟨("read_parcel", none), "read_parcel", "read_parcel", defArgs s_read_parcel, defBody s_read_parcel, defScope s_read_parcel, [], []⟩
def h_shown_thing : He.DefD := ⟨("shown_thing", none), "shown_thing", "shown_thing", defArgs s_shown_thing, defBody s_shown_thing, defScope s_shown_thing, [], []⟩
def h_show_parcel : He.DefD := ⟨("show_parcel", none), "show_parcel", "show_parcel", defArgs s_show_parcel, defBody s_show_parcel, defScope s_show_parcel, [], []⟩
def h_law : He.DefD := ⟨("law", none), "law", "law", defArgs s_law, defBody s_law, defScope s_law, [], []⟩
def h_NoText_init : He.DefD := ⟨(nmC cC_NoText, some "__init__"), "__init__", "NoText.__init__", defArgs s_NoText_init, defBody s_NoText_init, defScope s_NoText_init, [], []⟩
def hfn : List He.DefD := [h_Parcel_eq, h_law_digits, h_is_name, h_is_path, h_is_tuple, h_is_aside, h_is_whole, h_is_from, h_is_choice, h_is_edition, h_is_clash, h_is_deed, h_is_worth, h_is_file, h_is_option, h_are_all, h_heads_of, h_is_need, h_rise, h_are_rising, h_are_asides, h_are_calls, h_are_choices, h_are_needs, h_Parcel_init, h_law_parcel, h_law_needs, h_law_paths, h_law_parts, h_Parcel_ahead, h_Parcel_asides, h_Parcel_called, h_Parcel_calls, h_Parcel_choices, h_Parcel_clashes, h_Parcel_deeds, h_Parcel_edition, h_Parcel_files, h_Parcel_needs, h_Parcel_settings, h_law_same, h_law_row, h_law_text, h_number_of, h_first_of, h_look_at_text, h_name_of, h_option_of, h_path_of, h_when_of, h_thing_of, h_read_parcel, h_shown_thing, h_show_parcel, h_law, h_NoText_init]
def hfa : List He.Fa := ([.glo (nmC cC_Parcel), .cls (nmC cC_Parcel), .meth (nmC cC_Parcel) "__eq__", .glo "_law_digits", .glo "is_name", .glo "is_path", .glo "is_tuple", .glo "is_aside", .glo "is_whole", .glo "is_from", .glo "is_choice", .glo "is_edition", .glo "is_clash", .glo "is_deed", .glo "is_worth", .glo "is_file", .glo "is_option", .glo "are_all", .glo "heads_of", .glo "is_need"] : List He.Fa) ++ ([.glo "rise", .glo "are_rising", .glo "are_asides", .glo "are_calls", .glo "are_choices", .glo "are_needs", .meth (nmC cC_Parcel) "__init__", .glo "_law_parcel", .glo "_law_needs", .glo "_law_paths", .glo "_law_parts", .meth (nmC cC_Parcel) "ahead", .meth (nmC cC_Parcel) "asides", .meth (nmC cC_Parcel) "called", .meth (nmC cC_Parcel) "calls", .meth (nmC cC_Parcel) "choices", .meth (nmC cC_Parcel) "clashes", .meth (nmC cC_Parcel) "deeds", .meth (nmC cC_Parcel) "edition", .meth (nmC cC_Parcel) "files"] : List He.Fa) ++ ([.meth (nmC cC_Parcel) "needs", .meth (nmC cC_Parcel) "settings", .glo "_law_same", .glo "_law_row", .glo "_law_text", .glo "number_of", .glo "first_of", .glo "look_at_text", .glo "name_of", .glo "option_of", .glo "path_of", .glo "when_of", .glo "thing_of", .glo "read_parcel", .glo "shown_thing", .glo "show_parcel", .glo "law", .glo (nmC cC_NoParcel), .glo (nmC cC_NoText), .glo (nmC cC_WholeError)] : List He.Fa) ++ ([.mkr (nmC cC_Parcel), .noat (nmC cC_Parcel) "own_edition", .noat (nmC cC_Parcel) "own_name", .noat (nmC cC_Parcel) "own_parts", .glo (nmC ct_FORMS), .glo (nmC ct_READERS), .free "abs", .free "all", .free "any", .free "bool", .free "enumerate", .free "int", .free "isinstance", .free "len", .free "range", .free "repr", .free "set", .free "sorted", .free "str", .free "tuple"] : List He.Fa) ++ ([.free "zip", .str "LETTERS" "abcdefghijklmnopqrstuvwxyz", .int "MOST_BY" 99, .int "MOST_EDITION" 999, .int "MOST_FIGURES" 10, .int "MOST_NAME" 8, .int "MOST_NAMES" 3, .int "MOST_OPTIONS" 3, .int "MOST_RANK" 99, .int "MOST_WORTH" 1000000000] : List He.Fa)
def exL (K : PySem.W.Frag) : List Bool := [holdV K 8 (.ref (kwAt (nmC cC_Parcel, some "__init__") "needs" K)) (.tup []),
 holdV K 8 (.ref (kwAt (nmC cC_Parcel, some "__init__") "ahead" K)) (.tup []),
 holdV K 8 (.ref (kwAt (nmC cC_Parcel, some "__init__") "clashes" K)) (.tup []),
 holdV K 8 (.ref (kwAt (nmC cC_Parcel, some "__init__") "files" K)) (.tup []),
 holdV K 8 (.ref (kwAt (nmC cC_Parcel, some "__init__") "settings" K)) (.tup []),
 holdV K 8 (.ref (kwAt (nmC cC_Parcel, some "__init__") "asides" K)) (.tup []),
 holdV K 8 (.ref (kwAt (nmC cC_Parcel, some "__init__") "choices" K)) (.tup []),
 holdV K 8 (.ref (kwAt (nmC cC_Parcel, some "__init__") "calls" K)) (.tup []),
 holdV K 8 (.ref (kwAt (nmC cC_Parcel, some "__init__") "deeds" K)) (.tup []),
 oexB K cC_NoText .ve,
 oiniB K cC_NoText,
 excB K cC_NoText,
 decide (PySem.W.findIn K (.ref (cl K cC_NoText)) "row" = some none),
 gmB K cC_WholeError (Bk.init .ve),
 exmB K (.ref (cl K cC_NoParcel)) exy_NoParcel exn_NoParcel,
 ktB K (.own cC_Parcel) yes_Parcel no_Parcel,
 isCB K cC_Parcel,
 decide (PySem.W.findIn K (.ref (cl K cC_Parcel)) "__eq__" = some (some (.ref (He.fAd K (nmC cC_Parcel, some "__eq__"))))),
 decide (PySem.W.findIn K (.ref (cl K cC_Parcel)) "__ne__" = some (some (.builtin "object.__ne__"))),
 decide (PySem.W.mroIn K (cl K cC_Parcel) (.type "object") = some true),
 nfB K cC_Parcel right_Parcel,
 tabKB K ct_FORMS tab_FORMS,
 tabKB K ct_READERS tab_READERS,
 tupKB K "ORDER" tx_ORDER,
 tok2B K "BLANK" " " "DASH" "-",
 tok2B K "DASH" "-" "BLANK" " ",
 gloB K "ORDER" (.tup [(.str "needs"), (.str "ahead"), (.str "clashes"), (.str "file"), (.str "setting"), (.str "aside"), (.str "choice"), (.str "call"), (.str "deed")]),
 gloB K "WHENS" (.tup [(.str "ahead put"), (.str "behind set"), (.str "ahead loose")])]
def exB (K : PySem.W.Frag) : Bool := (exL K).all id
abbrev Rw : PySem.W.OpenRow := PySem.W.OpenLaw.row PySem.Challenge.rw_wholeparcels_k78_parcels_written
abbrev hk : PySem.W.Hook := hookY 5 hfa hfn exB
def hob (s : PySem.W.SharedT) : He.AlX := obsY 5 hfa hfn exB (HandSHeadRun.getT s)
def hview : List Nat := [57, 58, 59, 60, 61, 62, 63, 64, 65]
def hloose : List Str := (["WholeError", "NoParcel", "NoText", "LETTERS", "MOST_NAME", "MOST_NAMES", "is_whole", "is_from", "is_name", "is_path", "MOST_EDITION", "MOST_WORTH", "MOST_RANK", "MOST_BY", "MOST_OPTIONS", "WHENS", "is_edition", "is_worth", "is_tuple", "are_all"] : List Str) ++ (["rise", "heads_of", "is_option", "is_need", "is_clash", "is_file", "is_aside", "is_choice", "is_deed", "are_needs", "are_rising", "are_asides", "are_choices", "are_calls", "Parcel", "MOST_FIGURES", "BLANK", "DASH", "FORMS", "ORDER"] : List Str) ++ (["number_of", "name_of", "path_of", "when_of", "READERS", "option_of", "thing_of", "shown_thing", "show_parcel", "look_at_text", "first_of", "read_parcel"] : List Str)
def fixW (b : Bool) (w : PySem.World) : PySem.World := { w with params := { w.params with followText := fun row => if row = "special-get-raises" then b else w.params.followText row } }
theorem fixW_eq (w : PySem.World) : fixW (w.params.followText "special-get-raises") w = w := by
 obtain ⟨d, p⟩ := w
 obtain ⟨a1, a2, a3, a4, a5, f, a7⟩ := p
 simp only [fixW]
 congr
 funext row
 by_cases h : row = "special-get-raises"
 ·rw [if_pos h, h]
 ·rw [if_neg h]
open PySem.W PySem.Calls HandSHeadRun in
theorem hrunA_t (w : World) (os : PySem.OsState) : (HandSHeadRun.endF (HandSHeadRun.stepQ (HandSHeadRun.denQ HandSHeadRun.tabQ) Rw.prog (fixW true w)) 20000 Rw.prog (fixW true w) os).map (fun s => HandSHeadRun.looksF Rw.prog (boot_heap (fixW true w).params) s.abs) = some true := by kernel_rfl
open PySem.W PySem.Calls HandSHeadRun in
theorem hrunA_f (w : World) (os : PySem.OsState) : (HandSHeadRun.endF (HandSHeadRun.stepQ (HandSHeadRun.denQ HandSHeadRun.tabQ) Rw.prog (fixW false w)) 20000 Rw.prog (fixW false w) os).map (fun s => HandSHeadRun.looksF Rw.prog (boot_heap (fixW false w).params) s.abs) = some true := by kernel_rfl
open PySem.W PySem.Calls HandSHeadRun in
theorem hrunA (w : World) (os : PySem.OsState) : (HandSHeadRun.endF (HandSHeadRun.stepQ (HandSHeadRun.denQ HandSHeadRun.tabQ) Rw.prog w) 20000 Rw.prog w os).map (fun s => HandSHeadRun.looksF Rw.prog (boot_heap w.params) s.abs) = some true := by
 have h : ∀ b : Bool, (HandSHeadRun.endF (HandSHeadRun.stepQ (HandSHeadRun.denQ HandSHeadRun.tabQ) Rw.prog (fixW b w)) 20000 Rw.prog (fixW b w) os).map (fun s => HandSHeadRun.looksF Rw.prog (boot_heap (fixW b w).params) s.abs) = some true := fun b => match b with
  | true => hrunA_t w os
  | false => hrunA_f w os
 have k := h (w.params.followText "special-get-raises")
 rw [fixW_eq] at k
 exact k
open PySem.W PySem.Calls HandSHeadRun in
theorem hrunB_t (w : World) (os : PySem.OsState) : (HandSHeadRun.endF (HandSHeadRun.stepQ (HandSHeadRun.denQ HandSHeadRun.tabQ) Rw.prog (fixW true w)) 20000 Rw.prog (fixW true w) os).map (fun s => seenQ (PySem.W.view Rw.prog hview) hloose (importedModules Rw.prog.main.body) (fun s => xlAt (PySem.W.view Rw.prog hview) [] s && recOk Rw.toRowW.records s) s.abs) = some (openGood (PySem.W.view Rw.prog hview) hloose) := by kernel_rfl
open PySem.W PySem.Calls HandSHeadRun in
theorem hrunB_f (w : World) (os : PySem.OsState) : (HandSHeadRun.endF (HandSHeadRun.stepQ (HandSHeadRun.denQ HandSHeadRun.tabQ) Rw.prog (fixW false w)) 20000 Rw.prog (fixW false w) os).map (fun s => seenQ (PySem.W.view Rw.prog hview) hloose (importedModules Rw.prog.main.body) (fun s => xlAt (PySem.W.view Rw.prog hview) [] s && recOk Rw.toRowW.records s) s.abs) = some (openGood (PySem.W.view Rw.prog hview) hloose) := by kernel_rfl
open PySem.W PySem.Calls HandSHeadRun in
theorem hrunB (w : World) (os : PySem.OsState) : (HandSHeadRun.endF (HandSHeadRun.stepQ (HandSHeadRun.denQ HandSHeadRun.tabQ) Rw.prog w) 20000 Rw.prog w os).map (fun s => seenQ (PySem.W.view Rw.prog hview) hloose (importedModules Rw.prog.main.body) (fun s => xlAt (PySem.W.view Rw.prog hview) [] s && recOk Rw.toRowW.records s) s.abs) = some (openGood (PySem.W.view Rw.prog hview) hloose) := by
 have h : ∀ b : Bool, (HandSHeadRun.endF (HandSHeadRun.stepQ (HandSHeadRun.denQ HandSHeadRun.tabQ) Rw.prog (fixW b w)) 20000 Rw.prog (fixW b w) os).map (fun s => seenQ (PySem.W.view Rw.prog hview) hloose (importedModules Rw.prog.main.body) (fun s => xlAt (PySem.W.view Rw.prog hview) [] s && recOk Rw.toRowW.records s) s.abs) = some (openGood (PySem.W.view Rw.prog hview) hloose) := fun b => match b with
  | true => hrunB_t w os
  | false => hrunB_f w os
 have k := h (w.params.followText "special-get-raises")
 rw [fixW_eq] at k
 exact k
theorem hrunC1_t (w : World) (os : PySem.OsState) : (HandSHeadRun.endF (HandSHeadRun.stepQ (HandSHeadRun.denQ HandSHeadRun.tabQ) Rw.prog (fixW true w)) 20000 Rw.prog (fixW true w) os).map (fun s => (hob s).1.1.1) = some true := by kernel_rfl
theorem hrunC1_f (w : World) (os : PySem.OsState) : (HandSHeadRun.endF (HandSHeadRun.stepQ (HandSHeadRun.denQ HandSHeadRun.tabQ) Rw.prog (fixW false w)) 20000 Rw.prog (fixW false w) os).map (fun s => (hob s).1.1.1) = some true := by kernel_rfl
theorem hrunC1 (w : World) (os : PySem.OsState) : (HandSHeadRun.endF (HandSHeadRun.stepQ (HandSHeadRun.denQ HandSHeadRun.tabQ) Rw.prog w) 20000 Rw.prog w os).map (fun s => (hob s).1.1.1) = some true := by
 have h : ∀ b : Bool, (HandSHeadRun.endF (HandSHeadRun.stepQ (HandSHeadRun.denQ HandSHeadRun.tabQ) Rw.prog (fixW b w)) 20000 Rw.prog (fixW b w) os).map (fun s => (hob s).1.1.1) = some true := fun b => match b with
  | true => hrunC1_t w os
  | false => hrunC1_f w os
 have k := h (w.params.followText "special-get-raises")
 rw [fixW_eq] at k
 exact k
theorem hrunC2_t (w : World) (os : PySem.OsState) : (HandSHeadRun.endF (HandSHeadRun.stepQ (HandSHeadRun.denQ HandSHeadRun.tabQ) Rw.prog (fixW true w)) 20000 Rw.prog (fixW true w) os).map (fun s => (hob s).1.1.2) = some (hfn.map He.DefD.val) := by kernel_rfl
theorem hrunC2_f (w : World) (os : PySem.OsState) : (HandSHeadRun.endF (HandSHeadRun.stepQ (HandSHeadRun.denQ HandSHeadRun.tabQ) Rw.prog (fixW false w)) 20000 Rw.prog (fixW false w) os).map (fun s => (hob s).1.1.2) = some (hfn.map He.DefD.val) := by kernel_rfl
theorem hrunC2 (w : World) (os : PySem.OsState) : (HandSHeadRun.endF (HandSHeadRun.stepQ (HandSHeadRun.denQ HandSHeadRun.tabQ) Rw.prog w) 20000 Rw.prog w os).map (fun s => (hob s).1.1.2) = some (hfn.map He.DefD.val) := by
 have h : ∀ b : Bool, (HandSHeadRun.endF (HandSHeadRun.stepQ (HandSHeadRun.denQ HandSHeadRun.tabQ) Rw.prog (fixW b w)) 20000 Rw.prog (fixW b w) os).map (fun s => (hob s).1.1.2) = some (hfn.map He.DefD.val) := fun b => match b with
  | true => hrunC2_t w os
  | false => hrunC2_f w os
 have k := h (w.params.followText "special-get-raises")
 rw [fixW_eq] at k
 exact k
theorem hrunC3_t (w : World) (os : PySem.OsState) : (HandSHeadRun.endF (HandSHeadRun.stepQ (HandSHeadRun.denQ HandSHeadRun.tabQ) Rw.prog (fixW true w)) 20000 Rw.prog (fixW true w) os).map (fun s => (hob s).2) = some true := by kernel_rfl
theorem hrunC3_f (w : World) (os : PySem.OsState) : (HandSHeadRun.endF (HandSHeadRun.stepQ (HandSHeadRun.denQ HandSHeadRun.tabQ) Rw.prog (fixW false w)) 20000 Rw.prog (fixW false w) os).map (fun s => (hob s).2) = some true := by kernel_rfl
theorem hrunC3 (w : World) (os : PySem.OsState) : (HandSHeadRun.endF (HandSHeadRun.stepQ (HandSHeadRun.denQ HandSHeadRun.tabQ) Rw.prog w) 20000 Rw.prog w os).map (fun s => (hob s).2) = some true := by
 have h : ∀ b : Bool, (HandSHeadRun.endF (HandSHeadRun.stepQ (HandSHeadRun.denQ HandSHeadRun.tabQ) Rw.prog (fixW b w)) 20000 Rw.prog (fixW b w) os).map (fun s => (hob s).2) = some true := fun b => match b with
  | true => hrunC3_t w os
  | false => hrunC3_f w os
 have k := h (w.params.followText "special-get-raises")
 rw [fixW_eq] at k
 exact k
theorem hrunC (w : World) (os : PySem.OsState) : (HandSHeadRun.endF (HandSHeadRun.stepQ (HandSHeadRun.denQ HandSHeadRun.tabQ) Rw.prog w) 20000 Rw.prog w os).map hob = some (hk.val w) := by
 have a := hrunC1 w os
 have b := hrunC2 w os
 have c := hrunC3 w os
 revert a b c
 generalize (HandSHeadRun.endF (HandSHeadRun.stepQ (HandSHeadRun.denQ HandSHeadRun.tabQ) Rw.prog w) 20000 Rw.prog w os) = x
 intro a b c
 cases x with
 | none => cases a
 | some s => exact congrArg some (Prod.ext (Prod.ext (Prod.ext (Option.some.inj a) (Option.some.inj b)) rfl) (Option.some.inj c))
theorem hrun (w : World) : HandSHeadRun.RunEq Rw (PySem.W.view Rw.prog hview) hk hob 20000 hloose w := by
 intro os
 have a := hrunA w os
 have b := hrunB w os
 have c := hrunC w os
 revert a b c
 generalize (HandSHeadRun.endF (HandSHeadRun.stepQ (HandSHeadRun.denQ HandSHeadRun.tabQ) Rw.prog w) 20000 Rw.prog w os) = x
 intro a b c
 cases x with
 | none => cases a
 | some s => exact congrArg some (Prod.ext (Option.some.inj a) (Prod.ext (Option.some.inj b) (Option.some.inj c)))
end DL78
/-! DL0: data as trees and cells; what an expression, a statement is worth over them. -/
namespace DL
open PySem L2

/-- no exception is let out; one that does not look at the names -/
def E0 : WX := fun _ _ _ _ => False
abbrev lift (E : XK) : WX := fun c d _ H => E c d H
/-- a list that is to be read: tracked, locked, or one of the module's own -/
def Lq (K : PySem.W.Frag) (H : Hp) (a : Addr) (xs : List V) : Prop := Rd H a (.lst xs) ∨ ∃ (its : List Value) (n : Nat), K.lookup a = some { cls := .type "list", data := .seq its.toArray n } ∧ its.length ≤ sizeLine ∧ Vals xs its
/-- at a: an exception of the class at C, its dict (none | at d) -/
def exv (a C : Addr) (d : Option Addr) : HO := .ext fun h => ∃ o : Obj, h.get? a = some o ∧ o.cls = .ref C ∧ o.dict = d ∧ ∃ fv : Array Value, o.data = .fields fv
/-- at a: an exception with such attributes -/
def ExAt (S : Hp) (a C : Addr) (ns : List Str) (vs : List V) : Prop := (S a = some (exv a C none) ∧ ns = [] ∧ vs = []) ∨ ∃ dx, S a = some (exv a C (some dx)) ∧ S dx = some (.xd (ns.zip vs)) ∧ ns.length = vs.length
/-- an entry of a dict whose keys are tuples of whole numbers -/
def tHash : Key → Int
 | .inl i => hashInt i
 | .inr _ => 0
def tEnt (x : List Key × Addr × Value) : DictEntry := ⟨reduceHash (Builtin.Tuple.tupleHashOf (x.1.map tHash)), .ref x.2.1, x.2.2⟩
/-- at a: such a dict -/
def tdO (a : Addr) (xs : List (List Key × Addr × Value)) : HO := .ext fun h => ∃ (o : Obj) (es : Array DictEntry) (ep : Nat), h.get? a = some o ∧ o.ExactDict ∧ o.data = .dict es ep ∧ es.toList = xs.map tEnt
/-- settled at a: the object od, a dict whose keys are tuples of whole numbers -/
structure TtS (K : PySem.W.Frag) (S : Hp) (od : Obj) (a b : Addr) (xs : List (List Key × Addr × Value)) : Prop where
 at0 : S a = some (.frz od (tdO b xs))
 sys : (b == sysModules) = false
 whole : ∀ x ∈ xs, ∀ k ∈ x.1, ∃ i, k = Sum.inl i
 nd : (xs.map (·.1)).Nodup
 at_ : ∀ x ∈ xs, SqT K S x.2.1 (x.1.map kV)
 len : xs.length ≤ sizeLine
mutual
inductive Rep (K : PySem.W.Frag) (W : Wd) : V → D → Prop
 | non : Rep K W .non .non
 | bl (b : Bool) : Rep K W (.bl b) (.bl b)
 | int (i : Int) : Rep K W (.int i) (.int i)
 | str (x : Str) : x.length ≤ sizeLine → Rep K W (.str x) (.str x)
 | tup {a : Addr} {xs : List V} {ds : List D} : ds.length ≤ sizeLine → SqT K W.S a xs → Reps K W xs ds → Rep K W (.ref a) (.tup ds)
 | lst {a : Addr} {xs : List V} {ds : List D} : ds.length ≤ sizeLine → Lq K W.S a xs → Reps K W xs ds → Rep K W (.ref a) (.lst ds)
 | hdl {a : Addr} {l : Nat} : W.io[l]? = some a → Rep K W (.ref a) (.hdl l)
 | cst (v : V) : Rep K W v (.cst v)
 | glo (c : Nat) : Rep K W (.ref (cl K c)) (.glo c)
 | obj {a dx : Addr} {C : Nat} {ns : List Str} {vs : List V} {ds : List D} : W.S a = some (.ins (cl K C) dx (ns.zip vs)) → ns.length = vs.length → Reps K W vs ds → Rep K W (.ref a) (.obj C (ns.zip ds))
 | exc {a : Addr} {C : Nat} {ns : List Str} {vs : List V} {ds : List D} : ExAt W.S a (cl K C) ns vs → Reps K W vs ds → Rep K W (.ref a) (.exc C (ns.zip ds))
 | dtc {a b : Addr} {od : Obj} {xs : List (List Key × Addr × Value)} {vs : List V} {ds : List D} : TtS K W.S od a b xs → Vals vs (xs.map (·.2.2)) → Reps K W vs ds → Rep K W (.ref a) (.dtc (xs.map (·.1)) ds)
inductive Reps (K : PySem.W.Frag) (W : Wd) : List V → List D → Prop
 | nil : Reps K W [] []
 | cons {v : V} {vs : List V} {d : D} {ds : List D} : Rep K W v d → Reps K W vs ds → Reps K W (v :: vs) (d :: ds)
end

theorem Reps.length {K : PySem.W.Frag} {W : Wd} : ∀ {vs : List V} {ds : List D}, Reps K W vs ds → vs.length = ds.length
 | _, _, .nil => rfl
 | _, _, .cons _ h => by rw [List.length_cons, List.length_cons, h.length]
theorem Reps.get {K : PySem.W.Frag} {W : Wd} : ∀ {vs : List V} {ds : List D} {i : Nat} {d : D}, Reps K W vs ds → ds[i]? = some d → ∃ v, vs[i]? = some v ∧ Rep K W v d
 | _, _, _, _, .nil, e => by simp at e
 | _, _, 0, _, .cons r _, e => by
  simp at e
  subst e
  exact ⟨_, rfl, r⟩
 | _, _, i + 1, d, .cons _ t, e => by
  obtain ⟨v, h1, h2⟩ := Reps.get (i := i) (d := d) t (by simpa using e)
  exact ⟨v, by simpa using h1, h2⟩
theorem Reps.getV {K : PySem.W.Frag} {W : Wd} : ∀ {vs : List V} {ds : List D} {i : Nat} {v : V}, Reps K W vs ds → vs[i]? = some v → ∃ d, ds[i]? = some d ∧ Rep K W v d
 | _, _, _, _, .nil, e => by simp at e
 | _, _, 0, _, .cons r _, e => by
  simp at e
  subst e
  exact ⟨_, rfl, r⟩
 | _, _, i + 1, v, .cons _ t, e => by
  obtain ⟨d, h1, h2⟩ := Reps.getV (i := i) (v := v) t (by simpa using e)
  exact ⟨d, by simpa using h1, h2⟩
theorem Reps.app {K : PySem.W.Frag} {W : Wd} : ∀ {vs us : List V} {ds es : List D}, Reps K W vs ds → Reps K W us es → Reps K W (vs ++ us) (ds ++ es)
 | _, _, _, _, .nil, s => s
 | _, _, _, _, .cons r t, s => .cons r (Reps.app t s)
theorem Reps.take {K : PySem.W.Frag} {W : Wd} : ∀ {vs : List V} {ds : List D} (n : Nat), Reps K W vs ds → Reps K W (vs.take n) (ds.take n)
 | _, _, 0, _ => .nil
 | _, _, _ + 1, .nil => .nil
 | _, _, n + 1, .cons r t => .cons r (Reps.take n t)
theorem Reps.drop {K : PySem.W.Frag} {W : Wd} : ∀ {vs : List V} {ds : List D} (n : Nat), Reps K W vs ds → Reps K W (vs.drop n) (ds.drop n)
 | _, _, 0, h => h
 | _, _, _ + 1, .nil => .nil
 | _, _, n + 1, .cons _ t => Reps.drop n t
theorem Reps.set {K : PySem.W.Frag} {W : Wd} {v : V} {d : D} (r : Rep K W v d) : ∀ {vs : List V} {ds : List D} (i : Nat), Reps K W vs ds → Reps K W (vs.set i v) (ds.set i d)
 | _, _, _, .nil => .nil
 | _, _, 0, .cons _ t => .cons r t
 | _, _, i + 1, .cons q t => .cons q (Reps.set r i t)

/-- W' knows all that W knows -/
structure Le (W W' : Wd) : Prop where
 s : Same W.S W'.S
 io : W.io <+: W'.io
theorem Le.refl (W : Wd) : Le W W := ⟨Same.refl _, List.prefix_refl _⟩
theorem Le.trans {W W1 W2 : Wd} (a : Le W W1) (b : Le W1 W2) : Le W W2 := ⟨a.s.trans b.s, a.io.trans b.io⟩
theorem prefix_get {l l' : List Addr} (h : l <+: l') {i : Nat} {a : Addr} (e : l[i]? = some a) : l'[i]? = some a := by
 obtain ⟨t, rfl⟩ := h
 rw [List.getElem?_append_left (List.getElem?_eq_some_iff.mp e).1]
 exact e
theorem same_rd {H H' : Hp} {a : Addr} {u : HO} (e : Same H H') (h : Rd H a u) : Rd H' a u := by
 rcases h with h | ⟨o, h⟩
 ·exact .inl (e _ _ h)
 ·exact .inr ⟨o, e _ _ h⟩
theorem same_lq {K : PySem.W.Frag} {H H' : Hp} {a : Addr} {xs : List V} (e : Same H H') (h : Lq K H a xs) : Lq K H' a xs := by
 rcases h with h | h
 ·exact .inl (same_rd e h)
 ·exact .inr h
theorem Lq.sq {K : PySem.W.Frag} {H : Hp} {a : Addr} {xs : List V} (h : Lq K H a xs) : SqL K H a xs := by
 rcases h with h | ⟨its, n, h1, h2, h3⟩
 ·exact .inl h
 ·exact .inr ⟨_, its.toArray, n, h1, rfl, rfl, rfl, by simpa using h2, by simpa using h3⟩
theorem Lq.isL {X : Cx} {pins : List (Addr × Obj)} {σ : St} {H : Hp} {s : Shared} {a : Addr} {xs : List V} (h : Lq X.K H a xs) (I : Inv X pins σ H s) : ∃ (its : List Value) (n : Nat), Vals xs its ∧ s.heap.get? a = some { cls := .type "list", data := .seq its.toArray n } := by
 rcases h with h | ⟨its, n, h1, h2, h3⟩
 ·obtain ⟨z, its, n, r, e⟩ := h.ok I.hok
  exact ⟨its, n, r, e⟩
 ·exact ⟨its, n, h3, I.kIn _ _ h1⟩
theorem same_l {K : PySem.W.Frag} {H H' : Hp} {a : Addr} {xs : List V} (e : Same H H') (h : SqL K H a xs) : SqL K H' a xs := e.seq h
theorem same_t {K : PySem.W.Frag} {H H' : Hp} {a : Addr} {xs : List V} (e : Same H H') (h : SqT K H a xs) : SqT K H' a xs := by
 rcases h with (h | ⟨o, h⟩) | h
 ·exact .inl (.inl (e _ _ h))
 ·exact .inl (.inr ⟨o, e _ _ h⟩)
 ·exact .inr h
theorem ExAt.mono {S S' : Hp} {a C : Addr} {ns : List Str} {vs : List V} (e : Same S S') (h : ExAt S a C ns vs) : ExAt S' a C ns vs := by
 rcases h with ⟨h, z⟩ | ⟨dx, h1, h2, h3⟩
 ·exact .inl ⟨e _ _ h, z⟩
 ·exact .inr ⟨dx, e _ _ h1, e _ _ h2, h3⟩
theorem TtS.mono {K : PySem.W.Frag} {S S' : Hp} {od : Obj} {a b : Addr} {xs : List (List Key × Addr × Value)} (e : Same S S') (h : TtS K S od a b xs) : TtS K S' od a b xs :=
 ⟨e _ _ h.at0, h.sys, h.whole, h.nd, fun x hx => same_t e (h.at_ x hx), h.len⟩
theorem ExAt.len {S : Hp} {a C : Addr} {ns : List Str} {vs : List V} (h : ExAt S a C ns vs) : ns.length = vs.length := by
 rcases h with ⟨_, rfl, rfl⟩ | ⟨dx, h1, h2, h3⟩
 ·rfl
 ·exact h3
mutual
theorem Rep.mono {K : PySem.W.Frag} {W W' : Wd} (l : Le W W') : ∀ {v : V} {d : D}, Rep K W v d → Rep K W' v d
 | _, _, .non => .non
 | _, _, .bl b => .bl b
 | _, _, .int i => .int i
 | _, _, .str x z => .str x z
 | _, _, .tup z h r => .tup z (same_t l.s h) (Reps.mono l r)
 | _, _, .lst z h r => .lst z (same_lq l.s h) (Reps.mono l r)
 | _, _, .hdl h => .hdl (prefix_get l.io h)
 | _, _, .cst v => .cst v
 | _, _, .glo c => .glo c
 | _, _, .obj h n r => .obj (l.s _ _ h) n (Reps.mono l r)
 | _, _, .exc h r => .exc (h.mono l.s) (Reps.mono l r)
 | _, _, .dtc h v r => .dtc (h.mono l.s) v (Reps.mono l r)
theorem Reps.mono {K : PySem.W.Frag} {W W' : Wd} (l : Le W W') : ∀ {vs : List V} {ds : List D}, Reps K W vs ds → Reps K W' vs ds
 | _, _, .nil => .nil
 | _, _, .cons r t => .cons (Rep.mono l r) (Reps.mono l t)
end

/-- what a code object's place says -/
def codeP (p : Addr × Str) : Heap → Prop := match LamX.CodeO p.1 p.2 with
 | .ext φ => φ
 | _ => fun _ => False
structure Dtt (K : PySem.W.Frag) (W : Wd) (ks : List (List Key)) (ds : List D) (o : HO) (a : Addr) (xs : List (List Key × Addr × Value)) (vs : List V) : Prop where
 is : o = tdO a xs
 sys : (a == sysModules) = false
 key : ks = xs.map (·.1)
 whole : ∀ x ∈ xs, ∀ k ∈ x.1, ∃ i, k = Sum.inl i
 nd : (xs.map (·.1)).Nodup
 at_ : ∀ x ∈ xs, SqT K W.S x.2.1 (x.1.map kV)
 val : Vals vs (xs.map (·.2.2))
 rep : Reps K W vs ds
 len : xs.length ≤ sizeLine
 nc : ∀ p, o ≠ .ext (codeP p)
theorem Dtt.mono {K : PySem.W.Frag} {W W' : Wd} (l : Le W W') {ks : List (List Key)} {ds : List D} {o : HO} {a : Addr} {xs : List (List Key × Addr × Value)} {vs : List V} (h : Dtt K W ks ds o a xs vs) : Dtt K W' ks ds o a xs vs :=
 ⟨h.is, h.sys, h.key, h.whole, h.nd, fun x hx => same_t l.s (h.at_ x hx), h.val, h.rep.mono l, h.len, h.nc⟩
/-- no table, nothing by a property alone -/
def Plain (o : HO) : Prop := (∀ ps, o ≠ .tbl ps) ∧ ∀ p, o ≠ .ext (codeP p)
/-- what stands at a cell's place -/
def CellO (K : PySem.W.Frag) (W : Wd) : MO → HO → Prop
 | .lst ds, o => ∃ vs, o = .lst vs ∧ Reps K W vs ds
 | .dct ks ds, o => ∃ vs, o = .dK (ks.zip vs) ∧ ks.length = vs.length ∧ Reps K W vs ds
 | .dtt ks ds, o => ∃ a xs vs, Dtt K W ks ds o a xs vs
 | .ins C ns ds, o => ∃ dx vs, o = .ins (cl K C) dx (ns.zip vs) ∧ ns.length = vs.length ∧ Reps K W vs ds
 | .gone, o => (∀ fs, o ≠ .xd fs) ∧ Plain o
theorem CellO.mono {K : PySem.W.Frag} {W W' : Wd} (l : Le W W') : ∀ {m : MO} {o : HO}, CellO K W m o → CellO K W' m o
 | .lst ds, _, ⟨vs, e, r⟩ => ⟨vs, e, r.mono l⟩
 | .dct ks ds, _, ⟨vs, e, n, r⟩ => ⟨vs, e, n, r.mono l⟩
 | .dtt ks ds, _, ⟨a, xs, vs, r⟩ => ⟨a, xs, vs, r.mono l⟩
 | .ins C ns ds, _, ⟨dx, vs, e, n, r⟩ => ⟨dx, vs, e, n, r.mono l⟩
 | .gone, _, h => h
theorem CellO.notxd {K : PySem.W.Frag} {W : Wd} : ∀ {m : MO} {o : HO}, CellO K W m o → ∀ fs, o ≠ .xd fs
 | .lst ds, _, ⟨vs, e, r⟩, fs => by rw [e]; exact fun z => nomatch z
 | .dct ks ds, _, ⟨vs, e, n, r⟩, fs => by rw [e]; exact fun z => nomatch z
 | .dtt ks ds, _, ⟨a, xs, vs, r⟩, fs => by rw [r.is]; exact fun z => nomatch z
 | .ins C ns ds, _, ⟨dx, vs, e, n, r⟩, fs => by rw [e]; exact fun z => nomatch z
 | .gone, _, h, fs => h.1 fs
theorem CellO.notbl {K : PySem.W.Frag} {W : Wd} : ∀ {m : MO} {o : HO}, CellO K W m o → ∀ ps, o ≠ .tbl ps
 | .lst ds, _, ⟨vs, e, r⟩, fs => by rw [e]; exact fun z => nomatch z
 | .dct ks ds, _, ⟨vs, e, n, r⟩, fs => by rw [e]; exact fun z => nomatch z
 | .dtt ks ds, _, ⟨a, xs, vs, r⟩, fs => by rw [r.is]; exact fun z => nomatch z
 | .ins C ns ds, _, ⟨dx, vs, e, n, r⟩, fs => by rw [e]; exact fun z => nomatch z
 | .gone, _, h, fs => h.2.1 fs
def CellIs (K : PySem.W.Frag) (W : Wd) (H : Hp) (a : Addr) (m : MO) : Prop := ∃ o, H a = some o ∧ CellO K W m o
theorem CellIs.mono {K : PySem.W.Frag} {W W' : Wd} {H H' : Hp} {a : Addr} (l : Le W W') (h : ∀ o, H a = some o → H' a = some o) {m : MO} : CellIs K W H a m → CellIs K W' H' a m
 | ⟨o, e, r⟩ => ⟨o, h _ e, r.mono l⟩

/-- the tables of code objects: of each def that makes functions, with the name that all of them have -/
def tabsOf (K : PySem.W.Frag) : List (Addr × Str) := lamDefs.map fun p => ((He.cT K p.1).2, p.2)
/-- the tables stand, and none of them is held fast -/
structure TabOk (K : PySem.W.Frag) (W : Wd) (H : Hp) : Prop where
 all : LamX.Tabs (tabsOf K) H
 no : ∀ p ∈ tabsOf K, W.S p.1 = none
theorem CellO.plain {K : PySem.W.Frag} {W : Wd} : ∀ {m : MO} {o : HO}, CellO K W m o → Plain o
 | .lst ds, _, ⟨vs, e, r⟩ => by rw [e]; exact ⟨(fun _ z => nomatch z), (fun _ z => nomatch z)⟩
 | .dct ks ds, _, ⟨vs, e, n, r⟩ => by rw [e]; exact ⟨(fun _ z => nomatch z), (fun _ z => nomatch z)⟩
 | .dtt ks ds, _, ⟨a, xs, vs, r⟩ => ⟨(fun _ z => by rw [r.is] at z; exact nomatch z), r.nc⟩
 | .ins C ns ds, _, ⟨dx, vs, e, n, r⟩ => by rw [e]; exact ⟨(fun _ z => nomatch z), (fun _ z => nomatch z)⟩
 | .gone, _, h => h.2
theorem tabs_new {T : List (Addr × Str)} {H : Hp} {p : Addr} {o : HO} (t : LamX.Tabs T H) (h : H p = none) : LamX.Tabs T (upd H p o) := t.ext fun b x e => by
 rw [upd_ne (ne_of_none e h)]
 exact e
theorem tabs_upd {T : List (Addr × Str)} {H : Hp} {a : Addr} {o o' : HO} (t : LamX.Tabs T H) (h : H a = some o) (n : Plain o) : LamX.Tabs T (upd H a o') := fun p hp => by
 obtain ⟨ps, h1, h2, h3⟩ := t p hp
 have ne : ∀ {b : Addr} {u : HO}, H b = some u → u ≠ o → b ≠ a := fun e q z => by
  rw [z, h] at e
  exact q (Option.some.inj e).symm
 refine ⟨ps, by rw [upd_ne (ne h1 (n.1 ps).symm)]; exact h1, h2, fun pos cv hc => ?_⟩
 obtain ⟨c, e1, e2⟩ := h3 pos cv hc
 exact ⟨c, e1, by rw [upd_ne (ne e2 (fun z => n.2 (c, p.2) z.symm))]; exact e2⟩
theorem TabOk.ne {K : PySem.W.Frag} {W : Wd} {H : Hp} {a : Addr} {o : HO} (t : TabOk K W H) (h : H a = some o) (n : ∀ ps, o ≠ .tbl ps) : ∀ p ∈ tabsOf K, p.1 ≠ a := fun p hp z => by
 obtain ⟨ps, h1, _⟩ := t.all p hp
 rw [z, h] at h1
 exact n ps (Option.some.inj h1)
theorem TabOk.fresh {K : PySem.W.Frag} {W : Wd} {H : Hp} {a : Addr} (t : TabOk K W H) (h : H a = none) : ∀ p ∈ tabsOf K, p.1 ≠ a := fun p hp z => by
 obtain ⟨ps, h1, _⟩ := t.all p hp
 rw [z, h] at h1
 cases h1

structure Ok (K : PySem.W.Frag) (W : Wd) (H : Hp) (μ : Mu) : Prop where
 sub : Same W.S H
 len : W.io.length = μ.length
 nd : W.io.Nodup
 apart : ∀ (l : Nat) a o, W.io[l]? = some a → μ[l]? = some o → o ≠ .gone → W.S a = none
 cell : ∀ (l : Nat) a o, W.io[l]? = some a → μ[l]? = some o → CellIs K W H a o
 tab : TabOk K W H

/-- from (W, H) to (W', H') -/
structure Go (W : Wd) (H : Hp) (W' : Wd) (H' : Hp) : Prop where
 le : Le W W'
 kept : ∀ a o, H a = some o → a ∉ W.io → (∀ ps, o ≠ .tbl ps) → H' a = some o
 grow : ∀ a, H' a = none → H a = none
 newio : ∀ a, a ∈ W'.io → a ∈ W.io ∨ H a = none
 newS : ∀ a o, W'.S a = some o → W.S a = some o ∨ H a = none ∨ a ∈ W.io
theorem Go.refl (W : Wd) (H : Hp) : Go W H W H := ⟨Le.refl W, fun _ _ h _ _ => h, fun _ h => h, fun _ h => .inl h, fun _ _ h => .inl h⟩
theorem Go.trans {W W1 W2 : Wd} {H H1 H2 : Hp} (a : Go W H W1 H1) (b : Go W1 H1 W2 H2) : Go W H W2 H2 where
 le := a.le.trans b.le
 kept := fun x o h n nt => b.kept x o (a.kept x o h n nt) (fun z => by
  rcases a.newio x z with z | z
  ·exact n z
  ·rw [h] at z; cases z) nt
 grow := fun x h => a.grow x (b.grow x h)
 newio := fun x h => by
  rcases b.newio x h with h | h
  ·exact a.newio x h
  ·exact .inr (a.grow x h)
 newS := fun x o h => by
  rcases b.newS x o h with h | h | h
  ·exact a.newS x o h
  ·exact .inr (.inl (a.grow x h))
  ·rcases a.newio x h with h | h
   ·exact .inr (.inr h)
   ·exact .inr (.inl h)

/-- the environment by slots -/
abbrev En := List (Option D)
structure Envs (K : PySem.W.Frag) (W : Wd) (σ : St) (ρ : En) : Prop where
 len : ρ.length = σ.length
 at_ : ∀ (i : Nat) d, ρ[i]? = some (some d) → ∃ v, σ[i]? = some (some v) ∧ Rep K W v d
theorem Envs.mono {K : PySem.W.Frag} {W W' : Wd} {σ : St} {ρ : En} (l : Le W W') (h : Envs K W σ ρ) : Envs K W' σ ρ := ⟨h.len, fun i d e => by
 obtain ⟨v, h1, h2⟩ := h.at_ i d e
 exact ⟨v, h1, h2.mono l⟩⟩
theorem Envs.set {K : PySem.W.Frag} {W : Wd} {σ : St} {ρ : En} {v : V} {d : D} (h : Envs K W σ ρ) (r : Rep K W v d) (i : Nat) : Envs K W (σ.set i (some v)) (ρ.set i (some d)) := ⟨by simp [h.len], fun j e he => by
 by_cases hj : i = j
 ·subst hj
  by_cases hl : i < ρ.length
  ·rw [List.getElem?_set_self hl] at he
   cases he
   exact ⟨v, List.getElem?_set_self (by rw [← h.len]; exact hl), r⟩
  ·rw [List.getElem?_eq_none (by simp; omega)] at he
   cases he
 ·rw [List.getElem?_set_ne hj] at he
  obtain ⟨u, h1, h2⟩ := h.at_ j e he
  exact ⟨u, by rw [List.getElem?_set_ne hj]; exact h1, h2⟩⟩
theorem Envs.unset {K : PySem.W.Frag} {W : Wd} {σ : St} {ρ : En} (h : Envs K W σ ρ) (x : Option V) (i : Nat) : Envs K W (σ.set i x) (ρ.set i none) := ⟨by simp [h.len], fun j e he => by
 by_cases hj : i = j
 ·subst hj
  by_cases hl : i < ρ.length
  ·rw [List.getElem?_set_self hl] at he
   cases he
  ·rw [List.getElem?_eq_none (by simp; omega)] at he
   cases he
 ·rw [List.getElem?_set_ne hj] at he
  obtain ⟨u, h1, h2⟩ := h.at_ j e he
  exact ⟨u, by rw [List.getElem?_set_ne hj]; exact h1, h2⟩⟩

def R.bind {α β : Type} : R α → (α → Mu → R β) → R β
 | .ok a μ, k => k a μ
 | .ex c fs μ, _ => .ex c fs μ
 | .bad, _ => .bad
@[simp] theorem R.bind_ok {α β : Type} (a : α) (μ : Mu) (k : α → Mu → R β) : (R.ok a μ).bind k = k a μ := of_eq_true (eq_self _)
@[simp] theorem R.bind_ex {α β : Type} (c : Nat) (fs : List (Str × D)) (μ : Mu) (k : α → Mu → R β) : (R.ex c fs μ : R α).bind k = .ex c fs μ := of_eq_true (eq_self _)
@[simp] theorem R.bind_bad {α β : Type} (k : α → Mu → R β) : (R.bad : R α).bind k = .bad := of_eq_true (eq_self _)
@[simp] theorem R.of_some {α : Type} (a : α) (μ : Mu) : R.of (some a) μ = .ok a μ := of_eq_true (eq_self _)
@[simp] theorem R.of_none {α : Type} (μ : Mu) : (R.of none μ : R α) = .bad := of_eq_true (eq_self _)

/-- an exception as it lies in the heap: its own dict's address (none: it has no field) -/
def ExcIs (K : PySem.W.Frag) (W : Wd) (H : Hp) (fs : List (Str × D)) (d : Option Addr) : Prop :=
 (fs = [] ∧ d = none) ∨ ∃ (a : Addr) (ns : List Str) (vs : List V) (ds : List D), d = some a ∧ W.S a = some (.xd (ns.zip vs)) ∧ fs = ns.zip ds ∧ ns.length = vs.length ∧ Reps K W vs ds

def post {α : Type} (K : PySem.W.Frag) (E : XK) (W : Wd) (H : Hp) (Rp : Wd → V → α → Prop) (r : R α) (Q : VK) : Prop := match r with
 | .ok d μ => ∀ W' v H', Go W H W' H' → Ok K W' H' μ → Rp W' v d → Q v H'
 | .ex c fs μ => ∀ W' H' d, Go W H W' H' → Ok K W' H' μ → ExcIs K W' H' fs d → E (.ref (cl K c)) d H'
 | .bad => False
abbrev postE (K : PySem.W.Frag) (E : XK) (W : Wd) (H : Hp) (r : R D) (Q : VK) : Prop := post K E W H (fun W v d => Rep K W v d) r Q
theorem post.mono {α : Type} {K : PySem.W.Frag} {E : XK} {W W1 : Wd} {H H1 : Hp} {Rp : Wd → V → α → Prop} {r : R α} {Q : VK} (g : Go W H W1 H1) (h : post K E W H Rp r Q) : post K E W1 H1 Rp r Q := by
 cases r with
 | ok d μ => exact fun W' v H' g' o r => h W' v H' (g.trans g') o r
 | ex c fs μ => exact fun W' H' d g' o r => h W' H' d (g.trans g') o r
 | bad => exact h

abbrev FE := En → Mu → R D
def rE (K : PySem.W.Frag) (E : WX) (f : FE) : TE := fun σ H Q => ∃ W ρ μ, Ok K W H μ ∧ Envs K W σ ρ ∧ postE K (WE E σ) W H (f ρ μ) Q
abbrev DE (X : Cx) (E : WX) (e : Expr) (f : FE) : Prop := PE X e (rE X.K E f)
theorem pe_imp {X : Cx} {e : Expr} {t t' : TE} (h : PE X e t) (i : ∀ σ H Q, t' σ H Q → t σ H Q) : PE X e t' := ⟨fun pins s σ H Q I q => h.run pins s σ H Q I (i σ H Q q)⟩
theorem ps_imp {X : Cx} {e : Stmt} {t t' : TS} (h : PS X e t) (i : ∀ D σ H, t' D σ H → t D σ H) : PS X e t' := ⟨fun pins s σ H D I q => h.run pins s σ H D I (i D σ H q)⟩
theorem pss_imp {X : Cx} {e : List Stmt} {t t' : TS} (h : PSs X e t) (i : ∀ D σ H, t' D σ H → t D σ H) : PSs X e t' := ⟨fun pins s σ H D I q => h.run pins s σ H D I (i D σ H q)⟩
theorem pa_imp {X : Cx} {e : List Expr} {t t' : TA} (h : PA X e t) (i : ∀ σ H Q, t' σ H Q → t σ H Q) : PA X e t' := ⟨fun pos pins s σ H Q I q => h.run pos pins s σ H Q I (i σ H Q q)⟩
theorem pt_imp {X : Cx} {e : Expr} {t t' : TT} (h : PT X e t) (i : ∀ σ H Q, t' σ H Q → t σ H Q) : PT X e t' := ⟨fun pins s σ H Q I q => h.run pins s σ H Q I (i σ H Q q)⟩
theorem pw_imp {X : Cx} {e : Expr} {t t' : TT} (h : PW X e t) (i : ∀ σ H Q, t' σ H Q → t σ H Q) : PW X e t' := ⟨fun wh pins s σ H Q I q => h.run wh pins s σ H Q I (i σ H Q q)⟩

/-- one part, then what follows -/
theorem seq {β : Type} {K : PySem.W.Frag} {E : WX} {fa : FE} {k : D → Mu → R β} {Rp : Wd → V → β → Prop} {σ : St} {H : Hp} {W : Wd} {ρ : En} {μ : Mu} {Q Q1 : VK} (p : post K (WE E σ) W H Rp ((fa ρ μ).bind k) Q) (ok : Ok K W H μ) (en : Envs K W σ ρ)
  (hk : ∀ d μ1 W1 x H1, Go W H W1 H1 → Ok K W1 H1 μ1 → Envs K W1 σ ρ → Rep K W1 x d → post K (WE E σ) W1 H1 Rp (k d μ1) Q → Q1 x H1) : rE K E fa σ H Q1 := by
 refine ⟨W, ρ, μ, ok, en, ?_⟩
 revert p
 cases h : fa ρ μ with
 | ok d μ1 => exact fun p W1 x H1 g o r => hk d μ1 W1 x H1 g o (en.mono g.le) r (post.mono g p)
 | ex c fs μ1 => exact fun p => p
 | bad => exact fun p => p

/-! ### tests -/
abbrev FT := En → Mu → R Bool
def postT (K : PySem.W.Frag) (E : XK) (W : Wd) (H : Hp) (r : R Bool) (Q : Bool → Hp → Prop) : Prop := match r with
 | .ok b μ => ∀ W' H', Go W H W' H' → Ok K W' H' μ → Q b H'
 | .ex c fs μ => ∀ W' H' d, Go W H W' H' → Ok K W' H' μ → ExcIs K W' H' fs d → E (.ref (cl K c)) d H'
 | .bad => False
theorem postT.mono {K : PySem.W.Frag} {E : XK} {W W1 : Wd} {H H1 : Hp} {r : R Bool} {Q : Bool → Hp → Prop} (g : Go W H W1 H1) (h : postT K E W H r Q) : postT K E W1 H1 r Q := by
 cases r with
 | ok d μ => exact fun W' H' g' o => h W' H' (g.trans g') o
 | ex c fs μ => exact fun W' H' d g' o r => h W' H' d (g.trans g') o r
 | bad => exact h
def rT (K : PySem.W.Frag) (E : WX) (f : FT) : TT := fun σ H Q => ∃ W ρ μ, Ok K W H μ ∧ Envs K W σ ρ ∧ postT K (WE E σ) W H (f ρ μ) Q
abbrev DT (X : Cx) (E : WX) (e : Expr) (f : FT) : Prop := PT X e (rT X.K E f)
abbrev DW (X : Cx) (E : WX) (e : Expr) (f : FT) : Prop := PW X e (rT X.K E f)

/-! ### argument lists -/
abbrev FA := En → Mu → R (List D)
def postA (K : PySem.W.Frag) (E : XK) (W : Wd) (H : Hp) (r : R (List D)) (Q : List V → Hp → Prop) : Prop := match r with
 | .ok ds μ => ∀ W' vs H', Go W H W' H' → Ok K W' H' μ → Reps K W' vs ds → Q vs H'
 | .ex c fs μ => ∀ W' H' d, Go W H W' H' → Ok K W' H' μ → ExcIs K W' H' fs d → E (.ref (cl K c)) d H'
 | .bad => False
theorem postA.mono {K : PySem.W.Frag} {E : XK} {W W1 : Wd} {H H1 : Hp} {r : R (List D)} {Q : List V → Hp → Prop} (g : Go W H W1 H1) (h : postA K E W H r Q) : postA K E W1 H1 r Q := by
 cases r with
 | ok d μ => exact fun W' v H' g' o r => h W' v H' (g.trans g') o r
 | ex c fs μ => exact fun W' H' d g' o r => h W' H' d (g.trans g') o r
 | bad => exact h
def rA (K : PySem.W.Frag) (E : WX) (f : FA) : TA := fun σ H Q => ∃ W ρ μ, Ok K W H μ ∧ Envs K W σ ρ ∧ postA K (WE E σ) W H (f ρ μ) Q
abbrev DA (X : Cx) (E : WX) (e : List Expr) (f : FA) : Prop := PA X e (rA X.K E f)

/-- the same of a whole argument list -/
theorem seqA {β : Type} {K : PySem.W.Frag} {E : WX} {fa : FA} {k : List D → Mu → R β} {Rp : Wd → V → β → Prop} {σ : St} {H : Hp} {W : Wd} {ρ : En} {μ : Mu} {Q : VK} {Q1 : List V → Hp → Prop} (p : post K (WE E σ) W H Rp ((fa ρ μ).bind k) Q) (ok : Ok K W H μ) (en : Envs K W σ ρ)
  (hk : ∀ ds μ1 W1 xs H1, Go W H W1 H1 → Ok K W1 H1 μ1 → Envs K W1 σ ρ → Reps K W1 xs ds → post K (WE E σ) W1 H1 Rp (k ds μ1) Q → Q1 xs H1) : rA K E fa σ H Q1 := by
 refine ⟨W, ρ, μ, ok, en, ?_⟩
 revert p
 cases h : fa ρ μ with
 | ok d μ1 => exact fun p W1 x H1 g o r => hk d μ1 W1 x H1 g o (en.mono g.le) r (post.mono g p)
 | ex c fs μ1 => exact fun p => p
 | bad => exact fun p => p
def aNil : FA := fun _ μ => .ok [] μ
def aCons (f : FE) (g : FA) : FA := fun ρ μ => (f ρ μ).bind fun d μ1 => (g ρ μ1).bind fun ds μ2 => .ok (d :: ds) μ2
section
variable {X : Cx} {E : WX}
theorem da_nil : DA X E [] aNil := pa_imp pa_nil fun σ H Q ⟨W, ρ, μ, ok, en, p⟩ => p W [] H (Go.refl W H) ok .nil
theorem da_cons {e : Expr} {es : List Expr} {f : FE} {g : FA} (h : DE X E e f) (hs : DA X E es g) (hst : starEach (e :: es) X.env = (false, eval e X.env) :: starEach es X.env := by rfl) : DA X E (e :: es) (aCons f g) := by
 refine pa_imp (pa_cons h hs hst) fun σ H Q ⟨W, ρ, μ, ok, en, p⟩ => ?_
 refine ⟨W, ρ, μ, ok, en, ?_⟩
 unfold aCons at p
 revert p
 cases f ρ μ with
 | ok d μ1 =>
  intro p W1 x H1 g1 o1 r1
  refine ⟨W1, ρ, μ1, o1, en.mono g1.le, ?_⟩
  have p := postA.mono g1 p
  revert p
  rw [R.bind_ok]
  cases g ρ μ1 with
  | ok ds μ2 => exact fun p W2 xs H2 g2 o2 r2 => p W2 (x :: xs) H2 g2 o2 (.cons (r1.mono g2.le) r2)
  | ex c fs μ2 => exact fun p => p
  | bad => exact fun p => p
 | ex c fs μ1 => exact fun p => p
 | bad => exact fun p => p
end

/-! ### names and constants -/
def dvar (i : Nat) : FE := fun ρ μ => match ρ[i]? with
 | some (some d) => .ok d μ
 | _ => .bad
def dc (d : D) : FE := fun _ μ => .ok d μ
section
variable {X : Cx} {E : WX}
theorem dv (i : Nat) {x : Str} {pos : Pos} (hN : X.N[i]? = some x := by rfl) (hv : Vis X.env.scope x := by first | exact Or.inl rfl | exact Or.inr (Or.inl rfl) | exact Or.inr (Or.inr rfl)) (hd : (x == ("__debug__" : Str)) = false := by decide)
  (hcd : (x == ("__classdict__" : Str)) = false := by decide) : DE X E (.Name x pos) (dvar i) := by
 refine pe_imp (pe_var hN hv hd hcd) fun σ H Q ⟨W, ρ, μ, ok, en, p⟩ => ?_
 unfold dvar at p
 revert p
 cases e : ρ[i]? with
 | none => exact fun p => p.elim
 | some o =>
  cases o with
  | none => exact fun p => p.elim
  | some d =>
   intro p
   obtain ⟨v, h1, h2⟩ := en.at_ i d e
   exact ⟨v, h1, p W v H (Go.refl W H) ok h2⟩
theorem dconst {e : Expr} {v : V} {d : D} (h : PE X e (tC v)) (r : ∀ W, Rep X.K W v d) : DE X E e (dc d) := pe_imp h fun σ H Q ⟨W, ρ, μ, ok, en, p⟩ => p W v H (Go.refl W H) ok (r W)
theorem dint {i j pos} : DE X E (.Constant (.int i) j pos) (dc (.int i)) := dconst pe_int fun _ => .int i
theorem dbool {b j pos} : DE X E (.Constant (.bool b) j pos) (dc (.bl b)) := dconst pe_bl fun _ => .bl b
theorem dnon {j pos} : DE X E (.Constant .none j pos) (dc .non) := dconst pe_non fun _ => .non
theorem dstr {x j pos} (hx : x.length ≤ sizeLine := by decide +kernel) : DE X E (.Constant (.str x) j pos) (dc (.str x)) := dconst pe_str fun _ => .str x hx

/-! ### two-place operations -/
/-- the rule r does g -/
def OpD (K : PySem.W.Frag) (E : WX) (r : R2) (g : D → D → Mu → R D) : Prop :=
 ∀ (E' : XK) W H μ x y vx vy Q, Ok K W H μ → Rep K W vx x → Rep K W vy y → postE K E' W H (g x y μ) Q → r vx vy H Q
/-- .. a pure one that makes nothing -/
theorem OpD.pure {K : PySem.W.Frag} {E : WX} {r : R2} {g : D → D → Option D} (h : ∀ W H μ x y vx vy d, Ok K W H μ → Rep K W vx x → Rep K W vy y → g x y = some d → ∃ v, Rep K W v d ∧ ∀ Q : VK, Q v H → r vx vy H Q) : OpD K E r (fun x y μ => R.of (g x y) μ) := by
 intro E' W H μ x y vx vy Q ok rx ry
 show postE K E' W H (R.of (g x y) μ) Q → _
 cases e : g x y with
 | none => exact fun p => p.elim
 | some d =>
  intro p
  obtain ⟨v, h1, h2⟩ := h W H μ x y vx vy d ok rx ry e
  exact h2 Q (p W v H (Go.refl W H) ok h1)
def dbin (g : D → D → Mu → R D) (fa fb : FE) : FE := fun ρ μ => (fa ρ μ).bind fun x μ1 => (fb ρ μ1).bind fun y μ2 => g x y μ2
theorem tOp_of {r : R2} {g : D → D → Mu → R D} {fa fb : FE} (h : OpD X.K E r g) : ∀ σ H Q, rE X.K E (dbin g fa fb) σ H Q → tOp r (rE X.K E fa) (rE X.K E fb) σ H Q := fun σ H Q ⟨W, ρ, μ, ok, en, p⟩ =>
 seq p ok en fun x μ1 W1 vx H1 g1 ok1 en1 rx p1 => seq p1 ok1 en1 fun y μ2 W2 vy H2 g2 ok2 en2 ry p2 => h _ W2 H2 μ2 x y vx vy Q ok2 (rx.mono g2.le) ry p2
theorem dbinop {op : Operator} {a b : Expr} {pos : Pos} {fa fb : FE} {r : R2} {g : D → D → Mu → R D} (ho : OpR X (binaryOp op) r) (h : OpD X.K E r g) (ha : DE X E a fa) (hb : DE X E b fb) : DE X E (.BinOp a op b pos) (dbin g fa fb) :=
 pe_imp (pe_op ho ha hb) (tOp_of h)
theorem dcmp {op : CmpOp} {a b : Expr} {pos : Pos} {fa fb : FE} {r : R2} {g : D → D → Mu → R D} (ho : OpR X (compareOp op) r) (h : OpD X.K E r g) (ha : DE X E a fa) (hb : DE X E b fb) (hm : behindInMarks op b = false := by first | exact nomark _ | rfl) : DE X E (.Compare a [op] [b] pos) (dbin g fa fb) :=
 pe_imp (pe_cmpR ho ha hb hm) (tOp_of h)
/-! ### tests of values -/
def dtest (f : FE) : FT := fun ρ μ => (f ρ μ).bind fun d μ1 => match d with
 | .bl b => .ok b μ1
 | _ => .bad
theorem tB_of {f : FE} : ∀ σ H Q, rT X.K E (dtest f) σ H Q → tB (rE X.K E f) σ H Q := fun σ H Q ⟨W, ρ, μ, ok, en, p⟩ => by
 refine ⟨W, ρ, μ, ok, en, ?_⟩
 unfold dtest at p
 revert p
 cases f ρ μ with
 | ok d μ1 =>
  rw [R.bind_ok]
  cases d with
  | bl b =>
   intro p W1 v H1 g1 o1 r1
   cases r1
   exact ⟨b, rfl, p W1 H1 g1 o1⟩
  | _ => exact fun p => p.elim
 | ex c fs μ1 => exact fun p => p
 | bad => exact fun p => p
theorem dtest_val {e : Expr} {f : FE} (h : DE X E e f) (he : ∀ whole, isTrue e X.env whole = (do let v ← whole; standAt e.pos; holding [v] (truthy v)) := by intro _; rfl) : DT X E e (dtest f) := pt_imp (pt_val h he) tB_of
theorem dtest_cmp {op : CmpOp} {a b : Expr} {pos : Pos} {fa fb : FE} {r : R2} {g : D → D → Mu → R D} (ho : OpR X (compareOp op) r) (h : OpD X.K E r g) (ha : DE X E a fa) (hb : DE X E b fb) (hm : behindInMarks op b = false := by first | exact nomark _ | rfl) : DT X E (.Compare a [op] [b] pos) (dtest (dbin g fa fb)) := by
 refine pt_imp (pt_cmpR ho ha hb hm) fun σ H Q q => ?_
 have q := tB_of σ H Q q
 unfold tTest
 exact tOp_of h σ H _ q
def tand (f g : FT) : FT := fun ρ μ => (f ρ μ).bind fun b μ1 => if b = true then g ρ μ1 else .ok false μ1
def tor (f g : FT) : FT := fun ρ μ => (f ρ μ).bind fun b μ1 => if b = true then .ok true μ1 else g ρ μ1
def tnot (f : FT) : FT := fun ρ μ => (f ρ μ).bind fun b μ1 => .ok (!b) μ1
theorem seqT {K : PySem.W.Frag} {fa : FT} {k : Bool → Mu → R Bool} {σ : St} {H : Hp} {W : Wd} {ρ : En} {μ : Mu} {Q Q1 : Bool → Hp → Prop} (p : postT K (WE E σ) W H ((fa ρ μ).bind k) Q) (ok : Ok K W H μ) (en : Envs K W σ ρ)
  (hk : ∀ b μ1 W1 H1, Go W H W1 H1 → Ok K W1 H1 μ1 → Envs K W1 σ ρ → postT K (WE E σ) W1 H1 (k b μ1) Q → Q1 b H1) : rT K E fa σ H Q1 := by
 refine ⟨W, ρ, μ, ok, en, ?_⟩
 revert p
 cases h : fa ρ μ with
 | ok d μ1 => exact fun p W1 H1 g o => hk d μ1 W1 H1 g o (en.mono g.le) (postT.mono g p)
 | ex c fs μ1 => exact fun p => p
 | bad => exact fun p => p
theorem tAnd_of {f g : FT} : ∀ σ H Q, rT X.K E (tand f g) σ H Q → tAnd (rT X.K E f) (rT X.K E g) σ H Q := fun σ H Q ⟨W, ρ, μ, ok, en, p⟩ =>
 seqT p ok en fun b μ1 W1 H1 g1 o1 en1 p1 => by
  cases b with
  | true => exact ⟨W1, ρ, μ1, o1, en1, p1⟩
  | false => exact p1 W1 H1 (Go.refl _ _) o1
theorem tOr_of {f g : FT} : ∀ σ H Q, rT X.K E (tor f g) σ H Q → tOr (rT X.K E f) (rT X.K E g) σ H Q := fun σ H Q ⟨W, ρ, μ, ok, en, p⟩ =>
 seqT p ok en fun b μ1 W1 H1 g1 o1 en1 p1 => by
  cases b with
  | false => exact ⟨W1, ρ, μ1, o1, en1, p1⟩
  | true => exact p1 W1 H1 (Go.refl _ _) o1
variable {a b : Expr} {rest : List Expr} {pos : Pos} {f g : FT}
theorem dw_and1 (ha : DT X E a f) : DW X E (.BoolOp .And [a] pos) f := pw_and1 ha
theorem dw_or1 (ha : DT X E a f) : DW X E (.BoolOp .Or [a] pos) f := pw_or1 ha
theorem dw_and (ha : DT X E a f) (hb : DW X E (.BoolOp .And (b :: rest) pos) g) : DW X E (.BoolOp .And (a :: b :: rest) pos) (tand f g) := pw_imp (pw_and ha hb) tAnd_of
theorem dw_or (ha : DT X E a f) (hb : DW X E (.BoolOp .Or (b :: rest) pos) g) : DW X E (.BoolOp .Or (a :: b :: rest) pos) (tor f g) := pw_imp (pw_or ha hb) tOr_of
theorem dt_w (h : DW X E a f) : DT X E a f := h.pt
theorem dt_not (ha : DT X E a f) : DT X E (.UnaryOp .Not a pos) (tnot f) := pt_imp (pt_not ha) fun σ H Q ⟨W, ρ, μ, ok, en, p⟩ =>
 seqT p ok en fun b μ1 W1 H1 g1 o1 en1 p1 => p1 W1 H1 (Go.refl _ _) o1
end
end DL
/-! DL1: statements, targets, walks, loops, comprehensions. -/
namespace DL
open PySem L2

/-- no exception is let out -/
def R.nox {α : Type} : R α → R α
 | .ok a μ => .ok a μ
 | _ => .bad
@[simp] theorem R.nox_ok {α : Type} (a : α) (μ : Mu) : (R.ok a μ).nox = .ok a μ := of_eq_true (eq_self _)
@[simp] theorem R.nox_bad {α : Type} : (R.bad : R α).nox = .bad := of_eq_true (eq_self _)
@[simp] theorem R.nox_ex {α : Type} (c : Nat) (fs : List (Str × D)) (μ : Mu) : (R.ex c fs μ : R α).nox = .bad := of_eq_true (eq_self _)

/-! ### a new object that never changes -/
section
variable {K : PySem.W.Frag} {W : Wd} {H : Hp} {μ : Mu} {p : Addr} {o : HO}
theorem same_new {H : Hp} {p : Addr} {o : HO} (h : H p = none) : Same H (upd H p o) := fun b x e => by
 rw [upd_ne (ne_of_none e h)]
 exact e
theorem Ok.snone (ok : Ok K W H μ) (h : H p = none) : W.S p = none := ok.sub.free h
theorem Go.new (ok : Ok K W H μ) (h : H p = none) : Go W H (W.new p o) (upd H p o) := by
 refine ⟨⟨same_new (ok.snone h), List.prefix_refl _⟩, fun a u e _ _ => ?_, fun a e => ?_, fun a e => .inl e, fun a u e => ?_⟩
 ·rw [upd_ne (ne_of_none e h)]
  exact e
 ·by_cases z : a = p
  ·rw [z]; exact h
  ·rw [upd_ne z] at e; exact e
 ·by_cases z : a = p
  ·rw [z]; exact .inr (.inl h)
  ·exact .inl (by rw [← e]; exact (upd_ne z).symm)
theorem Ok.new (ok : Ok K W H μ) (h : H p = none) : Ok K (W.new p o) (upd H p o) μ := by
 have g := Go.new (o := o) ok h
 refine ⟨fun a u e => ?_, ok.len, ok.nd, fun l a m e1 e2 n => ?_, fun l a m e1 e2 => ?_, ⟨tabs_new ok.tab.all h, fun q hq => (upd_ne (ok.tab.fresh h q hq)).trans (ok.tab.no q hq)⟩⟩
 ·by_cases z : a = p
  ·have e : upd W.S p o a = some u := e
   rw [z] at e ⊢
   rw [upd_same] at e ⊢
   exact e
  ·have e : upd W.S p o a = some u := e
   rw [upd_ne z] at e ⊢
   exact ok.sub a u e
 ·show upd W.S p o a = none
  by_cases z : a = p
  ·obtain ⟨u, e, _⟩ := ok.cell l a m e1 e2
   rw [z, h] at e
   cases e
  ·rw [upd_ne z]
   exact ok.apart l a m e1 e2 n
 ·exact (ok.cell l a m e1 e2).mono g.le fun u e => by
   rw [upd_ne (ne_of_none e h)]
   exact e
/-- a new tuple, a new list -/
theorem rep_tup {vs : List V} {ds : List D} (ok : Ok K W H μ) (h : H p = none) (z : ds.length ≤ sizeLine) (r : Reps K W vs ds) : Rep K (W.new p (.tup vs)) (.ref p) (.tup ds) :=
 .tup z (.inl (.inl (show upd W.S p (.tup vs) p = _ from upd_same))) (r.mono (Go.new ok h).le)
theorem rep_lst {vs : List V} {ds : List D} (ok : Ok K W H μ) (h : H p = none) (z : ds.length ≤ sizeLine) (r : Reps K W vs ds) : Rep K (W.new p (.lst vs)) (.ref p) (.lst ds) :=
 .lst z (.inl (.inl (show upd W.S p (.lst vs) p = _ from upd_same))) (r.mono (Go.new ok h).le)
end

/-! ### a new cell, a changed cell, a frozen cell -/
section
variable {K : PySem.W.Frag} {W : Wd} {H : Hp} {μ : Mu} {p a : Addr} {l : Nat} {m m' : MO} {o o' : HO}
theorem Ok.notio (ok : Ok K W H μ) (h : H p = none) : p ∉ W.io := fun z => by
 obtain ⟨l, hl, e⟩ := List.mem_iff_getElem.mp z
 have hm : l < μ.length := by rw [← ok.len]; exact hl
 obtain ⟨u, q, _⟩ := ok.cell l p μ[l] (by rw [List.getElem?_eq_getElem hl, e]) (List.getElem?_eq_getElem hm)
 rw [h] at q
 cases q
theorem Go.cell (ok : Ok K W H μ) (h : H p = none) : Go W H (W.cell p) (upd H p o) := by
 refine ⟨⟨Same.refl _, List.prefix_append _ _⟩, fun a u e _ _ => ?_, fun a e => ?_, fun a e => ?_, fun a u e => .inl e⟩
 ·rw [upd_ne (ne_of_none e h)]
  exact e
 ·by_cases z : a = p
  ·rw [z]; exact h
  ·rw [upd_ne z] at e; exact e
 ·have e : a ∈ W.io ++ [p] := e
  rcases List.mem_append.mp e with e | e
  ·exact .inl e
  ·have e : a = p := by simpa using e
   rw [e]; exact .inr h
theorem Ok.newcell (ok : Ok K W H μ) (h : H p = none) (c : CellO K W m o) : Ok K (W.cell p) (upd H p o) (μ ++ [m]) := by
 have g := Go.cell (o := o) ok h
 have hn := ok.notio h
 have get : ∀ (l : Nat) a k, (W.io ++ [p])[l]? = some a → (μ ++ [m])[l]? = some k → (W.io[l]? = some a ∧ μ[l]? = some k) ∨ (a = p ∧ k = m) := fun l a k e1 e2 => by
  by_cases hl : l < W.io.length
  ·rw [List.getElem?_append_left hl] at e1
   rw [List.getElem?_append_left (by rw [← ok.len]; exact hl)] at e2
   exact .inl ⟨e1, e2⟩
  ·rw [List.getElem?_append_right (by omega)] at e1
   rw [List.getElem?_append_right (by rw [← ok.len]; omega), ← ok.len] at e2
   cases hz : l - W.io.length with
   | zero =>
    rw [hz] at e1 e2
    simp at e1 e2
    exact .inr ⟨e1.symm, e2.symm⟩
   | succ n =>
    rw [hz] at e1
    simp at e1
 refine ⟨fun a u e => ?_, by simp [Wd.cell, ok.len], ?_, fun l a k e1 e2 n => ?_, fun l a k e1 e2 => ?_, ⟨tabs_new ok.tab.all h, ok.tab.no⟩⟩
 ·have e : W.S a = some u := e
  rw [upd_ne (ne_of_none (ok.sub _ _ e) h)]
  exact ok.sub _ _ e
 ·show (W.io ++ [p]).Nodup
  rw [List.nodup_append]
  exact ⟨ok.nd, by simp, fun x hx y hy z => hn (by
   have e : y = p := by simpa using hy
   rw [← e, ← z]; exact hx)⟩
 ·show W.S a = none
  rcases get l a k e1 e2 with ⟨e1, e2⟩ | ⟨rfl, rfl⟩
  ·exact ok.apart l a k e1 e2 n
  ·exact ok.snone h
 ·rcases get l a k e1 e2 with ⟨e1, e2⟩ | ⟨rfl, rfl⟩
  ·exact (ok.cell l a k e1 e2).mono g.le fun u e => by
    rw [upd_ne (ne_of_none e h)]
    exact e
  ·exact ⟨o, upd_same, c.mono g.le⟩
theorem Ok.io_ne (ok : Ok K W H μ) {l2 : Nat} {b : Addr} (h1 : W.io[l]? = some a) (h2 : W.io[l2]? = some b) (hne : l2 ≠ l) : b ≠ a := fun e => by
 obtain ⟨i1, e1⟩ := List.getElem?_eq_some_iff.mp h1
 obtain ⟨i2, e2⟩ := List.getElem?_eq_some_iff.mp h2
 exact hne ((List.getElem_inj ok.nd).mp (e2.trans (e.trans e1.symm)))
/-- the cell l holds m' from now on -/
theorem Ok.setcell (ok : Ok K W H μ) (h1 : W.io[l]? = some a) (h2 : μ[l]? = some m) (hg : m ≠ .gone) (c : CellO K W m' o') : Ok K W (upd H a o') (μ.set l m') ∧ Go W H W (upd H a o') := by
 have ha : W.S a = none := ok.apart l a m h1 h2 hg
 obtain ⟨o, ho, hc0⟩ := ok.cell l a m h1 h2
 have hm : a ∈ W.io := List.mem_of_getElem? h1
 refine ⟨⟨fun b u e => ?_, by rw [List.length_set]; exact ok.len, ok.nd, fun l2 b k e1 e2 n => ?_, fun l2 b k e1 e2 => ?_, ⟨tabs_upd ok.tab.all ho hc0.plain, ok.tab.no⟩⟩, ⟨Le.refl _, fun b u e n _ => ?_, fun b e => ?_, fun b e => .inl e, fun b u e => .inl e⟩⟩
 ·rw [upd_ne (ne_of_none e ha)]
  exact ok.sub _ _ e
 ·by_cases z : l2 = l
  ·subst z
   rw [h1] at e1
   cases e1
   exact ha
  ·rw [List.getElem?_set_ne (Ne.symm z)] at e2
   exact ok.apart l2 b k e1 e2 n
 ·by_cases z : l2 = l
  ·subst z
   rw [h1] at e1
   cases e1
   rw [List.getElem?_set_self (List.getElem?_eq_some_iff.mp h2).1] at e2
   cases e2
   exact ⟨o', upd_same, c⟩
  ·rw [List.getElem?_set_ne (Ne.symm z)] at e2
   exact (ok.cell l2 b k e1 e2).mono (Le.refl _) fun u e => by
    rw [upd_ne (ok.io_ne h1 e1 z)]
    exact e
 ·rw [upd_ne (fun z => n (by rw [z]; exact hm))]
  exact e
 ·by_cases z : b = a
  ·rw [z, upd_same] at e
   cases e
  ·rw [upd_ne z] at e
   exact e
/-- the cell l never changes any more -/
theorem Ok.freeze (ok : Ok K W H μ) (h1 : W.io[l]? = some a) (h2 : μ[l]? = some m) (hg : m ≠ .gone) (ho : H a = some o) : Ok K (W.new a o) H (μ.set l .gone) ∧ Go W H (W.new a o) H := by
 have ha : W.S a = none := ok.apart l a m h1 h2 hg
 have hm : a ∈ W.io := List.mem_of_getElem? h1
 have le : Le W (W.new a o) := ⟨same_new ha, List.prefix_refl _⟩
 have np : ∀ p ∈ tabsOf K, p.1 ≠ a := by
  obtain ⟨o3, ho3, hc3⟩ := ok.cell l a m h1 h2
  exact ok.tab.ne ho3 hc3.plain.1
 refine ⟨⟨fun b u e => ?_, by rw [List.length_set]; exact ok.len, ok.nd, fun l2 b k e1 e2 n => ?_, fun l2 b k e1 e2 => ?_, ⟨ok.tab.all, fun q hq => (upd_ne (np q hq)).trans (ok.tab.no q hq)⟩⟩, ⟨le, fun b u e n _ => e, fun b e => e, fun b e => .inl e, fun b u e => ?_⟩⟩
 ·have e : upd W.S a o b = some u := e
  by_cases z : b = a
  ·rw [z] at e ⊢
   rw [upd_same] at e
   rw [ho]; exact e
  ·rw [upd_ne z] at e
   exact ok.sub _ _ e
 ·show upd W.S a o b = none
  by_cases z : l2 = l
  ·subst z
   rw [List.getElem?_set_self (List.getElem?_eq_some_iff.mp h2).1] at e2
   cases e2
   exact absurd rfl n
  ·rw [List.getElem?_set_ne (Ne.symm z)] at e2
   rw [upd_ne (ok.io_ne h1 e1 z)]
   exact ok.apart l2 b k e1 e2 n
 ·by_cases z : l2 = l
  ·subst z
   rw [List.getElem?_set_self (List.getElem?_eq_some_iff.mp h2).1] at e2
   cases e2
   have e1 : W.io[l2]? = some b := e1
   rw [h1] at e1
   cases e1
   obtain ⟨o2, ho2, c2⟩ := ok.cell l2 a m h1 h2
   rw [ho] at ho2
   cases ho2
   exact ⟨o, ho, c2.notxd, c2.plain⟩
  ·rw [List.getElem?_set_ne (Ne.symm z)] at e2
   exact (ok.cell l2 b k e1 e2).mono le fun u e => e
 ·have e : upd W.S a o b = some u := e
  by_cases z : b = a
  ·rw [z]; exact .inr (.inr hm)
  ·rw [upd_ne z] at e
   exact .inl e
end

mutual
def asg : Tg → D → En → Option En
 | .nm i, d, ρ => some (ρ.set i (some d))
 | .tp ts, d, ρ => match d with
  | .tup ds => asgL ts ds ρ
  | _ => none
def asgL : List Tg → List D → En → Option En
 | [], [], ρ => some ρ
 | t :: ts, d :: ds, ρ => match asg t d ρ with
  | some ρ1 => asgL ts ds ρ1
  | none => none
 | _, _, _ => none
end
@[simp] theorem asg_nm (i : Nat) (d : D) (ρ : En) : asg (.nm i) d ρ = some (ρ.set i (some d)) := by simp [asg]
@[simp] theorem asg_tp (ts : List Tg) (ds : List D) (ρ : En) : asg (.tp ts) (.tup ds) ρ = asgL ts ds ρ := by simp [asg]
@[simp] theorem asgL_nil (ρ : En) : asgL [] [] ρ = some ρ := by simp [asgL]
@[simp] theorem asgL_cons (t : Tg) (ts : List Tg) (d : D) (ds : List D) (ρ : En) : asgL (t :: ts) (d :: ds) ρ = (asg t d ρ).bind (asgL ts ds) := by
 cases h : asg t d ρ <;> simp [asgL, h]
theorem asgL_len : ∀ {ts : List Tg} {ds : List D} {ρ ρ' : En}, asgL ts ds ρ = some ρ' → ds.length = ts.length
 | [], [], _, _, _ => rfl
 | [], _ :: _, _, _, e => by simp [asgL] at e
 | _ :: _, [], _, _, e => by simp [asgL] at e
 | t :: ts, d :: ds, ρ, ρ', e => by
  rw [asgL_cons] at e
  cases h : asg t d ρ with
  | none => rw [h] at e; cases e
  | some ρ1 =>
   rw [h] at e
   rw [List.length_cons, List.length_cons, asgL_len (ts := ts) (ds := ds) e]
/-- only some slots changed -/
structure But (vs : List Nat) (σ σ' : St) : Prop where
 len : σ'.length = σ.length
 at_ : ∀ j, j ∉ vs → σ'[j]? = σ[j]?
theorem But.refl (vs : List Nat) (σ : St) : But vs σ σ := ⟨rfl, fun _ _ => rfl⟩
theorem But.trans {vs us : List Nat} {σ σ1 σ2 : St} (a : But vs σ σ1) (b : But us σ1 σ2) : But (vs ++ us) σ σ2 :=
 ⟨b.len.trans a.len, fun j h => by
  rw [List.mem_append] at h
  rw [b.at_ j fun z => h (.inr z), a.at_ j fun z => h (.inl z)]⟩
theorem But.set (σ : St) (i : Nat) (x : Option V) : But [i] σ (σ.set i x) := ⟨by simp, fun j h => by
 have hj : i ≠ j := fun z => h (by simp [z])
 rw [List.getElem?_set_ne hj]⟩
def rG (K : PySem.W.Frag) (t : Tg) : TG := fun v σ H Q => ∃ W ρ ρ' d μ, Ok K W H μ ∧ Envs K W σ ρ ∧ Rep K W v d ∧ asg t d ρ = some ρ' ∧ ∀ σ', Envs K W σ' ρ' → But t.slots σ σ' → Q σ' H
def rGs (K : PySem.W.Frag) (ts : List Tg) : TGs := fun vs σ H Q => ∃ W ρ ρ' ds μ, Ok K W H μ ∧ Envs K W σ ρ ∧ Reps K W vs ds ∧ asgL ts ds ρ = some ρ' ∧ ∀ σ', Envs K W σ' ρ' → But (Tg.slotsL ts) σ σ' → Q σ' H
abbrev DG (X : Cx) (tg : Expr) (t : Tg) : Prop := PG X tg (rG X.K t)
abbrev DGs (X : Cx) (tg : List Expr) (t : List Tg) : Prop := PGs X tg (rGs X.K t)
theorem pg_imp {X : Cx} {e : Expr} {t t' : TG} (h : PG X e t) (i : ∀ v σ H Q, t' v σ H Q → t v σ H Q) : PG X e t' := ⟨fun pins s σ H v u Q I r q => h.run pins s σ H v u Q I r (i v σ H Q q)⟩
theorem pgs_imp {X : Cx} {e : List Expr} {t t' : TGs} (h : PGs X e t) (i : ∀ v σ H Q, t' v σ H Q → t v σ H Q) : PGs X e t' := ⟨fun pins s σ H v u Q I r q => h.run pins s σ H v u Q I r (i v σ H Q q)⟩
section
variable {X : Cx} {pos : Pos}
theorem dg_name {i : Nat} {x : Str} (hN : X.N.Nodup) (hi : X.N[i]? = some x := by rfl) (hx : Loc X.env.scope x := by first | exact .inl rfl | exact .inr rfl) (hf : X.fn x = true ∨ X.env.scope.names.lookup x = some .local := by first | exact .inl rfl | exact .inr rfl) : DG X (.Name x pos) (.nm i) :=
 pg_imp (pg_name hN hi hx hf) fun v σ H Q ⟨W, ρ, ρ', d, μ, ok, en, r, e, q⟩ => by
  rw [asg_nm] at e
  cases e
  exact q _ (en.set r i) (But.set σ i _)
theorem dgs_nil : DGs X [] [] := pgs_imp pgs_nil fun vs σ H Q ⟨W, ρ, ρ', ds, μ, ok, en, r, e, q⟩ => by
 have l := r.length
 rw [asgL_len e] at l
 cases r with
 | nil =>
  rw [asgL_nil] at e
  cases e
  exact ⟨rfl, q σ en (But.refl _ _)⟩
 | cons _ _ => cases l
theorem dgs_cons {e : Expr} {es : List Expr} {t : Tg} {ts : List Tg} (h : DG X e t) (hs : DGs X es ts) (hst : (assignEach (e :: es) X.env).map (·.2) = assign e X.env :: (assignEach es X.env).map (·.2) := by rfl) : DGs X (e :: es) (t :: ts) :=
 pgs_imp (pgs_cons h hs hst) fun vs σ H Q ⟨W, ρ, ρ', ds, μ, ok, en, r, e, q⟩ => by
  cases r with
  | nil => simp [asgL] at e
  | @cons v vs d ds r rs =>
   rw [asgL_cons] at e
   cases h : asg t d ρ with
   | none => rw [h] at e; cases e
   | some ρ1 =>
    rw [h] at e
    refine ⟨v, vs, rfl, W, ρ, ρ1, d, μ, ok, en, r, h, fun σ1 en1 b1 => ⟨W, ρ1, ρ', ds, μ, ok, en1, rs, e, fun σ2 en2 b2 => q σ2 en2 ?_⟩⟩
    show But (t.slots ++ Tg.slotsL ts) σ σ2
    exact b1.trans b2
theorem dg_tup {es : List Expr} {k : Nat} {ts : List Tg} (hc : X.calm = true) (h : DGs X es ts) (hn : (assignEach es X.env).length = ts.length := by rfl) (hst : (assignEach es X.env).findIdx? (·.1) = none := by rfl) : DG X (.Tuple es k pos) (.tp ts) :=
 pg_imp (pg_tup hc h hn hst) fun v σ H Q ⟨W, ρ, ρ', d, μ, ok, en, r, e, q⟩ => by
  cases r with
  | @tup a xs ds z sq rs =>
   rw [asg_tp] at e
   refine ⟨a, xs, rfl, same_t ok.sub sq, ?_, W, ρ, ρ', ds, μ, ok, en, rs, e, fun σ' en' b => q σ' en' b⟩
   rw [rs.length]
   exact asgL_len e
  | _ => simp [asg] at e
end

/-! ### statements -/
inductive O where
 | nx (ρ : En) (μ : Mu)
 | rt (d : D) (μ : Mu)
 | bk (ρ : En) (μ : Mu)
 | ct (ρ : En) (μ : Mu)
 | ex (ρ : En) (c : Nat) (fs : List (Str × D)) (μ : Mu)
 | bad
def postS (K : PySem.W.Frag) (E : WX) (W : Wd) (H : Hp) (o : O) (Z : Ends) : Prop := match o with
 | .nx ρ μ => ∀ W' σ' H', Go W H W' H' → Ok K W' H' μ → Envs K W' σ' ρ → Z.nx σ' H'
 | .bk ρ μ => ∀ W' σ' H', Go W H W' H' → Ok K W' H' μ → Envs K W' σ' ρ → Z.bk σ' H'
 | .ct ρ μ => ∀ W' σ' H', Go W H W' H' → Ok K W' H' μ → Envs K W' σ' ρ → Z.ct σ' H'
 | .rt d μ => ∀ W' v H', Go W H W' H' → Ok K W' H' μ → Rep K W' v d → Z.rt v H'
 | .ex ρ c fs μ => ∀ W' σ' H' d, Go W H W' H' → Ok K W' H' μ → Envs K W' σ' ρ → ExcIs K W' H' fs d → E (.ref (cl K c)) d σ' H'
 | .bad => False
theorem postS.mono {K : PySem.W.Frag} {E : WX} {W W1 : Wd} {H H1 : Hp} {o : O} {Z : Ends} (g : Go W H W1 H1) (h : postS K E W H o Z) : postS K E W1 H1 o Z := by
 cases o with
 | nx ρ μ => exact fun W' v H' g' o r => h W' v H' (g.trans g') o r
 | bk ρ μ => exact fun W' v H' g' o r => h W' v H' (g.trans g') o r
 | ct ρ μ => exact fun W' v H' g' o r => h W' v H' (g.trans g') o r
 | rt ρ μ => exact fun W' v H' g' o r => h W' v H' (g.trans g') o r
 | ex ρ c fs μ => exact fun W' σ' H' d g' o n r => h W' σ' H' d (g.trans g') o n r
 | bad => exact h
abbrev FS := En → Mu → O
def rS (K : PySem.W.Frag) (E : WX) (g : FS) : TS := fun Z σ H => ∃ W ρ μ, Ok K W H μ ∧ Envs K W σ ρ ∧ postS K E W H (g ρ μ) Z
abbrev DS (X : Cx) (E : WX) (st : Stmt) (g : FS) : Prop := PS X st (rS X.K E g)
abbrev DSs (X : Cx) (E : WX) (st : List Stmt) (g : FS) : Prop := PSs X st (rS X.K E g)
def R.to {α : Type} (r : R α) (ρ : En) (k : α → Mu → O) : O := match r with
 | .ok a μ => k a μ
 | .ex c fs μ => .ex ρ c fs μ
 | .bad => .bad
@[simp] theorem R.to_ok {α : Type} (a : α) (μ : Mu) (ρ : En) (k : α → Mu → O) : (R.ok a μ).to ρ k = k a μ := of_eq_true (eq_self _)
@[simp] theorem R.to_bad {α : Type} (ρ : En) (k : α → Mu → O) : (R.bad : R α).to ρ k = .bad := of_eq_true (eq_self _)
@[simp] theorem R.to_ex {α : Type} (c : Nat) (fs : List (Str × D)) (μ : Mu) (ρ : En) (k : α → Mu → O) : (R.ex c fs μ : R α).to ρ k = .ex ρ c fs μ := of_eq_true (eq_self _)
theorem seqS {K : PySem.W.Frag} {E : WX} {fa : FE} {k : D → Mu → O} {σ : St} {H : Hp} {W : Wd} {ρ : En} {μ : Mu} {Z : Ends} {Q1 : VK} (p : postS K E W H ((fa ρ μ).to ρ k) Z) (ok : Ok K W H μ) (en : Envs K W σ ρ)
  (hk : ∀ d μ1 W1 x H1, Go W H W1 H1 → Ok K W1 H1 μ1 → Envs K W1 σ ρ → Rep K W1 x d → postS K E W1 H1 (k d μ1) Z → Q1 x H1) : rE K E fa σ H Q1 := by
 refine ⟨W, ρ, μ, ok, en, ?_⟩
 revert p
 cases h : fa ρ μ with
 | ok d μ1 => exact fun p W1 x H1 g o r => hk d μ1 W1 x H1 g o (en.mono g.le) r (postS.mono g p)
 | ex c fs μ1 => exact fun p W' H' d g o r => p W' σ H' d g o (en.mono g.le) r
 | bad => exact fun p => p
theorem seqST {K : PySem.W.Frag} {E : WX} {fa : FT} {k : Bool → Mu → O} {σ : St} {H : Hp} {W : Wd} {ρ : En} {μ : Mu} {Z : Ends} {Q1 : Bool → Hp → Prop} (p : postS K E W H ((fa ρ μ).to ρ k) Z) (ok : Ok K W H μ) (en : Envs K W σ ρ)
  (hk : ∀ b μ1 W1 H1, Go W H W1 H1 → Ok K W1 H1 μ1 → Envs K W1 σ ρ → postS K E W1 H1 (k b μ1) Z → Q1 b H1) : rT K E fa σ H Q1 := by
 refine ⟨W, ρ, μ, ok, en, ?_⟩
 revert p
 cases h : fa ρ μ with
 | ok d μ1 => exact fun p W1 H1 g o => hk d μ1 W1 H1 g o (en.mono g.le) (postS.mono g p)
 | ex c fs μ1 => exact fun p W' H' d g o r => p W' σ H' d g o (en.mono g.le) r
 | bad => exact fun p => p
def gnil : FS := fun ρ μ => .nx ρ μ
def gseq (g h : FS) : FS := fun ρ μ => match g ρ μ with
 | .nx ρ' μ' => h ρ' μ'
 | o => o
def gret (f : FE) : FS := fun ρ μ => (f ρ μ).to ρ fun d μ1 => .rt d μ1
def gexpr (f : FE) : FS := fun ρ μ => (f ρ μ).to ρ fun _ μ1 => .nx ρ μ1
def gasg (t : Tg) (f : FE) : FS := fun ρ μ => (f ρ μ).to ρ fun d μ1 => match asg t d ρ with
 | some ρ' => .nx ρ' μ1
 | none => .bad
def gif (c : FT) (g h : FS) : FS := fun ρ μ => (c ρ μ).to ρ fun b μ1 => if b = true then g ρ μ1 else h ρ μ1
section
variable {X : Cx} {E : WX} {st : Stmt} {sts : List Stmt} {g h : FS} {e : Expr} {f : FE} {pos : Pos}
theorem ds_nil : DSs X E [] gnil := pss_imp pss_nil fun Z σ H ⟨W, ρ, μ, ok, en, p⟩ => p W σ H (Go.refl _ _) ok en
theorem ds_one (a : DS X E st g) : DSs X E [st] g := pss_one a
theorem ds_cons (a : DS X E st g) (b : DSs X E sts h) : DSs X E (st :: sts) (gseq g h) := pss_imp (pss_cons a b) fun Z σ H ⟨W, ρ, μ, ok, en, p⟩ => by
 refine ⟨W, ρ, μ, ok, en, ?_⟩
 unfold gseq at p
 revert p
 cases g ρ μ with
 | nx ρ' μ' => exact fun p W' σ' H' g' o r => ⟨W', ρ', μ', o, r, postS.mono g' p⟩
 | bk ρ μ => exact fun p => p
 | ct ρ μ => exact fun p => p
 | rt ρ μ => exact fun p => p
 | ex ρ c fs μ => exact fun p => p
 | bad => exact fun p => p
theorem ds_ret (a : DE X E e f) : DS X E (.Return (some e) pos) (gret f) := ps_imp (ps_ret a) fun Z σ H ⟨W, ρ, μ, ok, en, p⟩ =>
 seqS p ok en fun d μ1 W1 x H1 g1 o1 en1 r p1 => p1 W1 x H1 (Go.refl _ _) o1 r
theorem ds_expr (a : DE X E e f) (hs : swapsWith e none pos.line X.env = pure false := by rfl) : DS X E (.Expr e pos) (gexpr f) := ps_imp (ps_expr a hs) fun Z σ H ⟨W, ρ, μ, ok, en, p⟩ =>
 seqS p ok en fun d μ1 W1 x H1 g1 o1 en1 r p1 => p1 W1 σ H1 (Go.refl _ _) o1 en1
theorem tAsg_of {t : Tg} : ∀ Z σ H, rS X.K E (gasg t f) Z σ H → tAsg (rE X.K E f) (rG X.K t) Z σ H := fun Z σ H ⟨W, ρ, μ, ok, en, p⟩ =>
 seqS p ok en fun d μ1 W1 x H1 g1 o1 en1 r p1 => by
  revert p1
  cases e : asg t d ρ with
  | none => exact fun p => p.elim
  | some ρ' => exact fun p1 => ⟨W1, ρ, ρ', d, μ1, o1, en1, r, e, fun σ' en' _ => p1 W1 σ' H1 (Go.refl _ _) o1 en'⟩
theorem ds_asg {tg : Expr} {t : Tg} (a : DE X E e f) (b : DG X tg t) (hs : swapsWithSole [tg] e pos.line X.env = pure false := by rfl) (hw : swappedStores [tg] e X.env = pure none := by rfl)
  (h1 : (assignEach [tg] X.env).map (·.2) = [assign tg X.env] := by rfl) : DS X E (.Assign [tg] e pos) (gasg t f) := ps_imp (ps_asg a b hs hw h1) tAsg_of
theorem ds_set (i : Nat) {x : Str} {pos' : Pos} (hN : X.N.Nodup) (a : DE X E e f) (hi : X.N[i]? = some x := by rfl) (hx : Loc X.env.scope x := by first | exact .inl rfl | exact .inr rfl) (hs : swapsWith e (some (.Name x pos')) pos.line X.env = pure false := by rfl) (hf : X.fn x = true ∨ X.env.scope.names.lookup x = some .local := by first | exact .inl rfl | exact .inr rfl) :
  DS X E (.Assign [.Name x pos'] e pos) (gasg (.nm i) f) := ps_imp (ps_set hN hi hx a hs hf) fun Z σ H ⟨W, ρ, μ, ok, en, p⟩ =>
 seqS p ok en fun d μ1 W1 v H1 g1 o1 en1 r p1 => by
  rw [asg_nm] at p1
  exact p1 W1 _ H1 (Go.refl _ _) o1 (en1.set r i)
theorem ds_if {c : Expr} {a b : List Stmt} {fc : FT} (hc : DT X E c fc) (ha : DSs X E a g) (hb : DSs X E b h) : DS X E (.If c a b pos) (gif fc g h) := ps_imp (ps_if hc ha hb) fun Z σ H ⟨W, ρ, μ, ok, en, p⟩ =>
 seqST p ok en fun d μ1 W1 H1 g1 o1 en1 p1 => by
  cases d with
  | true => exact ⟨W1, ρ, μ1, o1, en1, p1⟩
  | false => exact ⟨W1, ρ, μ1, o1, en1, p1⟩
end

/-! ### walks -/
structure Walk (K : PySem.W.Frag) (W : Wd) (J : It) (xs : List D) : Prop where
 len : xs.length ≤ sizeLine
 go : ∀ H i, Same W.S H → i < xs.length → J.go i H
 stop : ∀ H i, Same W.S H → xs.length ≤ i → J.stop i H
 yld : ∀ H i x H', Same W.S H → J.yld i H x H' → ∀ d, xs[i]? = some d → ∀ W1 μ, Le W W1 → Ok K W1 H μ → ∃ W2, Go W1 H W2 H' ∧ Ok K W2 H' μ ∧ Rep K W2 x d
def postI (K : PySem.W.Frag) (E : XK) (W : Wd) (H : Hp) (r : R (List D)) (Q : It → Hp → Prop) : Prop := match r with
 | .ok xs μ => ∀ W' J H', Go W H W' H' → Ok K W' H' μ → Walk K W' J xs → Q J H'
 | .ex c fs μ => ∀ W' H' d, Go W H W' H' → Ok K W' H' μ → ExcIs K W' H' fs d → E (.ref (cl K c)) d H'
 | .bad => False
def rI (K : PySem.W.Frag) (E : WX) (f : FA) : TI := fun σ H Q => ∃ W ρ μ, Ok K W H μ ∧ Envs K W σ ρ ∧ postI K (WE E σ) W H (f ρ μ) Q
abbrev DI (X : Cx) (E : WX) (tg iter : Expr) (f : FA) : Prop := PI X tg iter (rI X.K E f)
theorem pi_imp {X : Cx} {tg e : Expr} {t t' : TI} (h : PI X tg e t) (i : ∀ σ H Q, t' σ H Q → t σ H Q) : PI X tg e t' := ⟨fun pins s σ H Q I q => h.run pins s σ H Q I (i σ H Q q)⟩
theorem Walk.le {K : PySem.W.Frag} {W W' : Wd} {J : It} {xs : List D} (w : Walk K W J xs) (l : Le W W') : Walk K W' J xs :=
 ⟨w.len, fun H i s => w.go H i (l.s.trans s), fun H i s => w.stop H i (l.s.trans s), fun H i x H' s y d e W1 μ l1 ok => w.yld H i x H' (l.s.trans s) y d e W1 μ (l.trans l1) ok⟩

/-! ### for -/
def forD (t : Tg) (b : FS) : List D → En → Mu → O
 | [], ρ, μ => .nx ρ μ
 | x :: xs, ρ, μ => match asg t x ρ with
  | none => .bad
  | some ρ1 => match b ρ1 μ with
   | .nx ρ2 μ2 => forD t b xs ρ2 μ2
   | .ct ρ2 μ2 => forD t b xs ρ2 μ2
   | .bk ρ2 μ2 => .nx ρ2 μ2
   | o => o
def gfor (fi : FA) (t : Tg) (b : FS) : FS := fun ρ μ => (fi ρ μ).to ρ fun xs μ1 => forD t b xs ρ μ1
section
variable {X : Cx} {E : WX} {pos : Pos}
theorem ds_for {tg iter : Expr} {body : List Stmt} {fi : FA} {t : Tg} {b : FS} (hp : PassesOwn (model X.prog X.w) X.A X.env X.xe) (hc : X.calm = true) (hi : DI X E tg iter fi) (hg : DG X tg t) (hb : DSs X E body b)
  (hs : ∀ x, foldedSetIterable iter X.env x = pure x := by intro _; rfl) : DS X E (.For tg iter body [] pos) (gfor fi t b) := by
 refine ps_imp (ps_for hp hc hi hg hb hs) fun Z σ H ⟨W, ρ, μ, ok, en, p⟩ => ?_
 refine ⟨W, ρ, μ, ok, en, ?_⟩
 unfold gfor at p
 revert p
 cases fi ρ μ with
 | ex c fs μ1 => exact fun p W' H' d g o r => p W' σ H' d g o (en.mono g.le) r
 | bad => exact fun p => p
 | ok xs μ1 =>
  rw [R.to_ok]
  intro p W1 J H1 g1 o1 wk
  refine ⟨fun i m σ H => m = xs.length - i ∧ i ≤ xs.length ∧ ∃ W2 ρ μ, Le W1 W2 ∧ Ok X.K W2 H μ ∧ Envs X.K W2 σ ρ ∧ postS X.K E W2 H (forD t b (xs.drop i) ρ μ) Z, ⟨xs.length, by simp, Nat.zero_le _, W1, ρ, μ1, Le.refl _, o1, en.mono g1.le, postS.mono g1 p⟩, ?_⟩
  rintro i m σ2 H2 ⟨rfl, hi, W2, ρ2, μ2, l2, o2, en2, p2⟩
  have s2 : Same W1.S H2 := l2.s.trans o2.sub
  by_cases hlt : i < xs.length
  ·rw [List.drop_eq_getElem_cons hlt] at p2
   unfold forD at p2
   refine .inr ⟨wk.go H2 i s2 hlt, fun σ3 H3 => ∃ W3 ρ3 μ3, Le W1 W3 ∧ Ok X.K W3 H3 μ3 ∧ Envs X.K W3 σ3 ρ3 ∧ postS X.K E W3 H3 (forD t b (xs.drop (i + 1)) ρ3 μ3) Z, fun σ3 H3 ⟨W3, ρ3, μ3, l3, o3, en3, p3⟩ => ⟨xs.length - (i + 1), by omega, rfl, hlt, W3, ρ3, μ3, l3, o3, en3, p3⟩, fun x H3 y => ?_⟩
   obtain ⟨W3, g3, o3, r3⟩ := wk.yld H2 i x H3 s2 y xs[i] (List.getElem?_eq_getElem hlt) W2 μ2 l2 o2
   revert p2
   cases e : asg t xs[i] ρ2 with
   | none => exact fun p => p.elim
   | some ρ3 =>
    intro p2
    refine ⟨W3, ρ2, ρ3, xs[i], μ2, o3, en2.mono g3.le, r3, e, fun σ4 en4 _ => ⟨W3, ρ3, μ2, o3, en4, ?_⟩⟩
    have p3 := postS.mono g3 p2
    revert p3
    dsimp only
    cases b ρ3 μ2 with
    | nx ρ5 μ5 => exact fun p W5 σ5 H5 g5 o5 e5 => ⟨W5, ρ5, μ5, (l2.trans g3.le).trans g5.le, o5, e5, postS.mono g5 p⟩
    | ct ρ5 μ5 => exact fun p W5 σ5 H5 g5 o5 e5 => ⟨W5, ρ5, μ5, (l2.trans g3.le).trans g5.le, o5, e5, postS.mono g5 p⟩
    | bk ρ5 μ5 => exact fun p => p
    | rt d μ5 => exact fun p => p
    | ex c fs μ5 => exact fun p => p
    | bad => exact fun p => p
  ·have ei : i = xs.length := by omega
   subst ei
   rw [List.drop_length] at p2
   exact .inl ⟨wk.stop H2 _ s2 (Nat.le_refl _), p2 W2 σ2 H2 (Go.refl _ _) o2 en2⟩
end
end DL
/-! DL2: comprehensions, what is walked, displays, cells, calls of defs. -/
namespace DL
open PySem L2

/-! ### comprehensions -/
def wipeD (ρ : En) : List Nat → En
 | [] => ρ
 | v :: vs => (wipeD ρ vs).set v none
theorem Envs.wipe {K : PySem.W.Frag} {W : Wd} {σ : St} {ρ : En} (h : Envs K W σ ρ) : ∀ vs : List Nat, Envs K W (L2.wipe σ vs) (wipeD ρ vs)
 | [] => h
 | v :: vs => (Envs.wipe h vs).unset none v
theorem wipe_out {σ : St} {j : Nat} : ∀ {vs : List Nat}, j ∉ vs → (L2.wipe σ vs)[j]? = σ[j]?
 | [], _ => rfl
 | v :: vs, h => by
  show ((L2.wipe σ vs).set v none)[j]? = _
  rw [List.getElem?_set_ne (fun z => h (by simp [z]))]
  exact wipe_out fun z => h (by simp [z])
theorem wipe_in {σ : St} {j : Nat} : ∀ {vs : List Nat}, j ∈ vs → (L2.wipe σ vs)[j]? = if j < σ.length then some none else none
 | [], h => by cases h
 | v :: vs, h => by
  show ((L2.wipe σ vs).set v none)[j]? = _
  by_cases e : v = j
  ·subst e
   rw [List.getElem?_set]
   simp [L2.wipe_length]
  ·rw [List.getElem?_set_ne e]
   exact wipe_in (by
    rcases List.mem_cons.mp h with z | z
    ·exact absurd z.symm e
    ·exact z)
theorem wipe_but {σ σ2 : St} {vs ts : List Nat} (hs : ∀ i ∈ ts, i ∈ vs) (b : But ts (L2.wipe σ vs) σ2) : L2.wipe σ2 vs = L2.wipe σ vs := by
 have hl : σ2.length = σ.length := by rw [b.len, L2.wipe_length]
 apply List.ext_getElem?
 intro j
 by_cases h : j ∈ vs
 ·rw [wipe_in h, wipe_in h, hl]
 ·rw [wipe_out h, wipe_out h, b.at_ j fun z => h (hs j z), wipe_out h]
abbrev DTs (X : Cx) (ifs : List Expr) (f : FT) : Prop := PTs X ifs (rT X.K E0 f)
theorem pts_imp {X : Cx} {e : List Expr} {t t' : TT} (h : PTs X e t) (i : ∀ σ H Q, t' σ H Q → t σ H Q) : PTs X e t' := ⟨fun pins s σ H Q I q => h.run pins s σ H Q I (i σ H Q q)⟩
def tyes : FT := fun _ μ => .ok true μ
theorem dts_nil {X : Cx} : DTs X [] tyes := pts_imp pts_nil fun σ H Q ⟨W, ρ, μ, ok, en, p⟩ => p W H (Go.refl _ _) ok
def lcD (t : Tg) (ft : FT) (fe : FE) (ρ : En) : List D → Mu → R (List D)
 | [], μ => .ok [] μ
 | x :: xs, μ => match asg t x ρ with
  | none => .bad
  | some ρ1 => (ft ρ1 μ).nox.bind fun b μ1 => if b = true then (fe ρ1 μ1).nox.bind fun y μ2 => (lcD t ft fe ρ xs μ2).bind fun ys μ3 => .ok (y :: ys) μ3 else lcD t ft fe ρ xs μ1
def dlc (fi : FA) (vs : List Nat) (t : Tg) (ft : FT) (fe : FE) : FE := fun ρ μ => (fi ρ μ).bind fun xs μ1 => (lcD t ft fe (wipeD ρ vs) xs μ1).bind fun ys μ2 => .ok (.lst ys) μ2
/-- an object outside of W changes, or comes -/
theorem Ok.other {K : PySem.W.Frag} {W : Wd} {H : Hp} {μ : Mu} {p : Addr} {o : HO} (ok : Ok K W H μ) (h1 : W.S p = none) (h2 : p ∉ W.io) (h3 : H p = none ∨ ∃ u, H p = some u ∧ Plain u) : Ok K W (upd H p o) μ :=
 ⟨fun a u e => by rw [upd_ne (ne_of_none e h1)]; exact ok.sub a u e, ok.len, ok.nd, ok.apart, fun l a m e1 e2 => (ok.cell l a m e1 e2).mono (Le.refl _) fun u e => by
  rw [upd_ne (fun z => h2 (by rw [← z]; exact List.mem_of_getElem? e1))]
  exact e, ⟨by
   rcases h3 with h3 | ⟨u, h3, h4⟩
   ·exact tabs_new ok.tab.all h3
   ·exact tabs_upd ok.tab.all h3 h4, ok.tab.no⟩⟩
theorem Go.other {W W' : Wd} {H H' : Hp} {p : Addr} {o : HO} (g : Go W H W' H') (h : H p = none) : Go W H W' (upd H' p o) :=
 ⟨g.le, fun a u e n nt => by rw [upd_ne (ne_of_none e h)]; exact g.kept a u e n nt, fun a e => by
  by_cases z : a = p
  ·rw [z]; exact h
  ·rw [upd_ne z] at e
   exact g.grow a e, g.newio, g.newS⟩
theorem Go.out {W W' : Wd} {H H' : Hp} {p : Addr} {o : HO} (g : Go W H W' H') (h : H p = some o) (h1 : W.S p = none) (h2 : p ∉ W.io) (h3 : ∀ ps, o ≠ .tbl ps := by exact fun _ z => nomatch z) : H' p = some o ∧ W'.S p = none ∧ p ∉ W'.io := by
 refine ⟨g.kept p o h h2 h3, ?_, fun z => ?_⟩
 ·cases e : W'.S p with
  | none => rfl
  | some u =>
   rcases g.newS p u e with z | z | z
   ·rw [h1] at z; cases z
   ·rw [h] at z; cases z
   ·exact absurd z h2
 ·rcases g.newio p z with z | z
  ·exact h2 z
  ·rw [h] at z; cases z
section
variable {X : Cx} {E : WX} {pos : Pos}
theorem tLc_of {fi : FA} {vs : List Nat} {t : Tg} {ft : FT} {fe : FE} (hsub : ∀ i ∈ t.slots, i ∈ vs) : ∀ σ H Q, rE X.K E (dlc fi vs t ft fe) σ H Q → tLc (rI X.K E fi) (rG X.K t) (rT X.K E0 ft) (rE X.K E0 fe) vs σ H Q := fun σ H Q ⟨W, ρ, μ, ok, en, p⟩ => by
 refine ⟨W, ρ, μ, ok, en, ?_⟩
 unfold dlc at p
 revert p
 cases fi ρ μ with
 | ex c fs μ1 => exact fun p => p
 | bad => exact fun p => p
 | ok xs μ1 =>
  rw [R.bind_ok]
  intro p W1 J H1 g1 o1 wk Dn hD
  have hz := wk.len
  have en1 := (en.mono g1.le).wipe vs
  refine ⟨fun i m H2 => m = xs.length - i ∧ i ≤ xs.length ∧ ∃ W2 μ2 acc ds, Go W1 H1 W2 H2 ∧ Ok X.K W2 H2 μ2 ∧ H2 Dn = some (.lst acc) ∧ Dn ∉ W2.io ∧ W2.S Dn = none ∧ Reps X.K W2 acc ds ∧ acc.length ≤ i ∧ postE X.K (WE E σ) W1 H1 ((lcD t ft fe (wipeD ρ vs) (xs.drop i) μ2).bind fun ys μ3 => .ok (.lst (ds ++ ys)) μ3) Q,
   ⟨xs.length, by simp, Nat.zero_le _, W1, μ1, [], [], (Go.refl _ _).other hD, o1.other (o1.snone hD) (o1.notio hD) (.inl hD), upd_same, o1.notio hD, o1.snone hD, .nil, Nat.le_refl _, ?_⟩, ?_⟩
  ·exact post.mono g1 p
  rintro i m H2 ⟨rfl, hi, W2, μ2, acc, ds, g2, o2, hacc, n2, s2, r2, l2, p2⟩
  have sm : Same W1.S H2 := g2.le.s.trans o2.sub
  by_cases hlt : i < xs.length
  ·rw [List.drop_eq_getElem_cons hlt] at p2
   unfold lcD at p2
   refine .inr ⟨wk.go H2 i sm hlt, fun H3 => ∃ W3 μ3 acc ds, Go W1 H1 W3 H3 ∧ Ok X.K W3 H3 μ3 ∧ H3 Dn = some (.lst acc) ∧ Dn ∉ W3.io ∧ W3.S Dn = none ∧ Reps X.K W3 acc ds ∧ acc.length ≤ i + 1 ∧ postE X.K (WE E σ) W1 H1 ((lcD t ft fe (wipeD ρ vs) (xs.drop (i + 1)) μ3).bind fun ys μ3 => .ok (.lst (ds ++ ys)) μ3) Q,
    fun H3 ⟨W3, μ3, acc, ds, q⟩ => ⟨xs.length - (i + 1), by omega, rfl, hlt, W3, μ3, acc, ds, q⟩, fun x H3 y => ?_⟩
   obtain ⟨W3, g3, o3, r3⟩ := wk.yld H2 i x H3 sm y xs[i] (List.getElem?_eq_getElem hlt) W2 μ2 g2.le o2
   obtain ⟨a3, s3, n3⟩ := g3.out hacc s2 n2
   revert p2
   cases e : asg t xs[i] (wipeD ρ vs) with
   | none => exact fun p => p.elim
   | some ρ3 =>
    dsimp only
    intro p2
    refine ⟨W3, wipeD ρ vs, ρ3, xs[i], μ2, o3, en1.mono (g2.le.trans g3.le), r3, e, fun σ4 en4 b4 => ⟨wipe_but hsub b4, ?_⟩⟩
    refine ⟨W3, ρ3, μ2, o3, en4, ?_⟩
    revert p2
    cases ft ρ3 μ2 with
    | ex c fs μ4 => exact fun p => p.elim
    | bad => exact fun p => p.elim
    | ok b μ4 =>
     rw [R.nox_ok, R.bind_ok]
     intro p2 W4 H4 g4 o4
     obtain ⟨a4, s4, n4⟩ := g4.out a3 s3 n3
     cases b with
     | false =>
      rw [if_neg Bool.false_ne_true] at p2 ⊢
      exact ⟨W4, μ4, acc, ds, (g2.trans g3).trans g4, o4, a4, n4, s4, r2.mono (g3.le.trans g4.le), by omega, p2⟩
     | true =>
      rw [if_pos rfl] at p2 ⊢
      refine ⟨W4, ρ3, μ4, o4, en4.mono g4.le, ?_⟩
      revert p2
      cases fe ρ3 μ4 with
      | ex c fs μ5 => exact fun p => p.elim
      | bad => exact fun p => p.elim
      | ok yd μ5 =>
       rw [R.nox_ok, R.bind_ok]
       intro p2 W5 yv H5 g5 o5 r5
       obtain ⟨a5, s5, n5⟩ := g5.out a4 s4 n4
       refine ⟨acc, a5, by omega, W5, μ5, acc ++ [yv], ds ++ [yd], (((g2.trans g3).trans g4).trans g5).other hD, o5.other s5 n5 (.inr ⟨_, a5, (fun _ z => nomatch z), (fun _ z => nomatch z)⟩), upd_same, n5, s5, (r2.mono ((g3.le.trans g4.le).trans g5.le)).app (.cons r5 .nil), by simp; omega, ?_⟩
       revert p2
       cases lcD t ft fe (wipeD ρ vs) (xs.drop (i + 1)) μ5 with
       | ex c fs μ6 => exact fun p => p
       | bad => exact fun p => p
       | ok ys μ6 =>
        rw [R.bind_ok, R.bind_ok, R.bind_ok, List.append_assoc]
        exact fun p => p
  ·have ei : i = xs.length := by omega
   subst ei
   rw [List.drop_length] at p2
   unfold lcD at p2
   rw [R.bind_ok, List.append_nil] at p2
   refine .inl ⟨wk.stop H2 _ sm (Nat.le_refl _), ?_⟩
   have lD : Le W2 (W2.new Dn (.lst acc)) := ⟨same_new s2, List.prefix_refl _⟩
   refine p2 (W2.new Dn (.lst acc)) (.ref Dn) H2 ⟨g2.le.trans lD, g2.kept, g2.grow, g2.newio, fun a u e => ?_⟩ ?_ ?_
   ·by_cases z : a = Dn
    ·rw [z]; exact .inr (.inl hD)
    ·exact g2.newS a u (by rw [← e]; exact (upd_ne z).symm)
   ·refine ⟨fun a u e => ?_, o2.len, o2.nd, fun l a m e1 e2 n => ?_, fun l a m e1 e2 => (o2.cell l a m e1 e2).mono lD fun u e => e, ⟨o2.tab.all, fun q hq => (upd_ne (o2.tab.ne hacc (fun _ z => nomatch z) q hq)).trans (o2.tab.no q hq)⟩⟩
    ·by_cases z : a = Dn
     ·have e : upd W2.S Dn (.lst acc) a = some u := e
      rw [z, upd_same] at e
      rw [z, hacc, e]
     ·have e : upd W2.S Dn (.lst acc) a = some u := e
      rw [upd_ne z] at e
      exact o2.sub a u e
    ·show upd W2.S Dn (.lst acc) a = none
     have z : a ≠ Dn := fun z => n2 (by rw [← z]; exact List.mem_of_getElem? e1)
     rw [upd_ne z]
     exact o2.apart l a m e1 e2 n
   ·refine .lst ?_ (.inl (.inl (show upd W2.S Dn (.lst acc) Dn = _ from upd_same))) (r2.mono lD)
    rw [← r2.length]
    omega
theorem de_lc {elt tg iter : Expr} {ifs : List Expr} {scope : Scope} {fi : FA} {t : Tg} {ft : FT} {fe : FE} (own : List (Str × Nat)) (hc : X.calm = true) (hN : X.N.Nodup) (hi : DI X E tg iter fi) (ok : BlkOk X.N X.env.scope scope own)
  (hg : ∀ (s : Shared) (H : Hp) (C : Addr) (cl : List (Str × Addr)) (fp : List Addr), DG (X.blk s H scope (compEnvC scope cl C X.env) fp) tg t) (ht : ∀ (s : Shared) (H : Hp) (C : Addr) (cl : List (Str × Addr)) (fp : List Addr), DTs (X.blk s H scope (compEnvC scope cl C X.env) fp) ifs ft)
  (he : ∀ (s : Shared) (H : Hp) (C : Addr) (cl : List (Str × Addr)) (fp : List Addr), DE (X.blk s H scope (compEnvC scope cl C X.env) fp) E0 elt fe) (hsub : ∀ i ∈ t.slots, i ∈ own.map (·.2) := by decide) (hs : ∀ x, foldedSetIterable iter X.env x = pure x := by intro _; rfl) :
  DE X E (.ListComp elt [⟨tg, iter, ifs, 0⟩] scope pos) (dlc fi (own.map (·.2)) t ft fe) := pe_imp (pe_lc (te := rE X.K E0 fe) (g := rG X.K t) (tt := rT X.K E0 ft) hc hN hi ok hg ht he hs) (tLc_of hsub)
theorem ds_setLc (i : Nat) {y : Str} {py spos : Pos} {elt tg iter : Expr} {ifs : List Expr} {scope : Scope} {fi : FA} {t : Tg} {ft : FT} {fe : FE} (own : List (Str × Nat)) (hc : X.calm = true) (hN : X.N.Nodup) (hi : DI X E tg iter fi) (ok : BlkOk X.N X.env.scope scope own)
  (hg : ∀ (s : Shared) (H : Hp) (C : Addr) (cl : List (Str × Addr)) (fp : List Addr), DG (X.blk s H scope (compEnvC scope cl C X.env) fp) tg t) (ht : ∀ (s : Shared) (H : Hp) (C : Addr) (cl : List (Str × Addr)) (fp : List Addr), DTs (X.blk s H scope (compEnvC scope cl C X.env) fp) ifs ft)
  (he : ∀ (s : Shared) (H : Hp) (C : Addr) (cl : List (Str × Addr)) (fp : List Addr), DE (X.blk s H scope (compEnvC scope cl C X.env) fp) E0 elt fe) (hsub : ∀ i ∈ t.slots, i ∈ own.map (·.2) := by decide) (hy : X.N[i]? = some y := by rfl) (hyl : X.env.scope.names.lookup y = some .local := by rfl)
  (hsw : swapsWith (.ListComp elt [⟨tg, iter, ifs, 0⟩] scope pos) (some (.Name y py)) spos.line X.env = pure true := by exact sw_true rfl rfl rfl (by decide +kernel)) (hs : ∀ x, foldedSetIterable iter X.env x = pure x := by intro _; rfl) :
  DS X E (.Assign [.Name y py] (.ListComp elt [⟨tg, iter, ifs, 0⟩] scope pos) spos) (gasg (.nm i) (dlc fi (own.map (·.2)) t ft fe)) := by
 refine ps_imp (ps_setLc (te := rE X.K E0 fe) (g := rG X.K t) (tt := rT X.K E0 ft) hc hN hy hyl hsw hi ok hg ht he hs) fun Z σ H ⟨W, ρ, μ, ok, en, p⟩ => ?_
 refine tLc_of (X := X) (E := E) hsub σ H _ (seqS p ok en fun d μ1 W1 v H1 g1 o1 en1 r p1 => ?_)
 rw [asg_nm] at p1
 exact p1 W1 _ H1 (Go.refl _ _) o1 (en1.set r i)
end

/-! ### what is walked -/
section
variable {K : PySem.W.Frag} {W : Wd} {a : Addr} {vs : List V} {ds : List D}
theorem walk_list (z : ds.length ≤ sizeLine) (h : SqL K W.S a vs) (r : Reps K W vs ds) : Walk K W (Itl K a) ds := by
 have hl := r.length
 refine ⟨z, fun H i s hi => ?_, fun H i s hi => ⟨vs, same_l s h, by omega⟩, fun H i x H' s y d e W1 μ l1 ok => ?_⟩
 ·obtain ⟨v, e, _⟩ := r.get (List.getElem?_eq_getElem hi)
  exact ⟨vs, v, same_l s h, e⟩
 ·obtain ⟨rfl, q⟩ := y
  obtain ⟨v, e1, r1⟩ := r.get e
  have e2 := q vs (same_l s h)
  rw [e1] at e2
  cases e2
  exact ⟨W1, Go.refl _ _, ok, r1.mono l1⟩
theorem walk_tup (z : ds.length ≤ sizeLine) (h : SqT K W.S a vs) (r : Reps K W vs ds) : Walk K W (Itt K a) ds := by
 have hl := r.length
 refine ⟨z, fun H i s hi => ?_, fun H i s hi => ⟨vs, same_t s h, by omega⟩, fun H i x H' s y d e W1 μ l1 ok => ?_⟩
 ·obtain ⟨v, e, _⟩ := r.get (List.getElem?_eq_getElem hi)
  exact ⟨vs, v, same_t s h, e⟩
 ·obtain ⟨rfl, q⟩ := y
  obtain ⟨v, e1, r1⟩ := r.get e
  have e2 := q vs (same_t s h)
  rw [e1] at e2
  cases e2
  exact ⟨W1, Go.refl _ _, ok, r1.mono l1⟩
theorem walk_str (x : Str) (z : x.length ≤ sizeLine) : Walk K W (Its x) (signs x) := by
 have hz : (signs x).length = x.cps.size := by simp [signs]
 refine ⟨by rw [hz]; exact z, fun H i s hi => by rw [hz] at hi; exact hi, fun H i s hi => by rw [hz] at hi; exact hi, fun H i v H' s y d e W1 μ l1 ok => ?_⟩
 obtain ⟨rfl, c, hc, rfl⟩ := y
 have e2 : (signs x)[i]? = some (.str ⟨#[c]⟩) := by
  unfold signs
  rw [List.getElem?_map, Array.getElem?_toList, hc]
  rfl
 rw [e2] at e
 cases e
 exact ⟨W1, Go.refl _ _, ok, .str _ (by show 1 ≤ sizeLine; decide)⟩
/-- numbers from lo on -/
def upto (lo : Int) : Nat → List D
 | 0 => []
 | n + 1 => .int lo :: upto (lo + 1) n
theorem upto_len : ∀ (lo : Int) (n : Nat), (upto lo n).length = n
 | _, 0 => rfl
 | lo, n + 1 => by rw [upto, List.length_cons, upto_len]
theorem upto_get : ∀ (lo : Int) (n i : Nat), i < n → (upto lo n)[i]? = some (.int (lo + i))
 | _, 0, _, h => by omega
 | lo, n + 1, 0, _ => by simp [upto]
 | lo, n + 1, i + 1, h => by
  rw [upto, List.getElem?_cons_succ, upto_get (lo + 1) n i (by omega)]
  congr 2
  omega
theorem walk_range (lo : Int) (n : Nat) (z : n ≤ sizeLine) : Walk K W (Itr lo n) (upto lo n) := by
 refine ⟨by rw [upto_len]; exact z, fun H i s hi => by rw [upto_len] at hi; exact hi, fun H i s hi => by rw [upto_len] at hi; exact hi, fun H i v H' s y d e W1 μ l1 ok => ?_⟩
 obtain ⟨rfl, rfl⟩ := y
 have hi : i < n := by
  have := (List.getElem?_eq_some_iff.mp e).1
  rw [upto_len] at this
  exact this
 rw [upto_get lo n i hi] at e
 cases e
 exact ⟨W1, Go.refl _ _, ok, .int _⟩
/-- numbered -/
def enumD (k : Int) : List D → List D
 | [] => []
 | x :: xs => .tup [.int k, x] :: enumD (k + 1) xs
theorem enumD_len : ∀ (k : Int) (xs : List D), (enumD k xs).length = xs.length
 | _, [] => rfl
 | k, x :: xs => by rw [enumD, List.length_cons, List.length_cons, enumD_len]
theorem enumD_get : ∀ (k : Int) (xs : List D) (i : Nat) (x : D), xs[i]? = some x → (enumD k xs)[i]? = some (.tup [.int (k + i), x])
 | _, [], _, _, h => by simp at h
 | k, y :: ys, 0, x, h => by
  simp at h
  subst h
  simp [enumD]
 | k, y :: ys, i + 1, x, h => by
  rw [enumD, List.getElem?_cons_succ, enumD_get (k + 1) ys i x (by simpa using h)]
  congr 4
  omega
theorem walk_enum (z : ds.length ≤ sizeLine) (h : SqL K W.S a vs) (r : Reps K W vs ds) : Walk K W (Ite K a) (enumD 0 ds) := by
 have hl := r.length
 refine ⟨by rw [enumD_len]; exact z, fun H i s hi => ?_, fun H i s hi => ⟨vs, same_l s h, by rw [enumD_len] at hi; omega⟩, fun H i x H' s y d e W1 μ l1 ok => ?_⟩
 ·rw [enumD_len] at hi
  obtain ⟨v, e, _⟩ := r.get (List.getElem?_eq_getElem hi)
  exact ⟨vs, v, same_l s h, e⟩
 ·obtain ⟨T, xv, rfl, hT, rfl, q⟩ := y
  have e2 := q vs (same_l s h)
  obtain ⟨xd, e3, r3⟩ := r.getV e2
  rw [enumD_get 0 ds i xd e3] at e
  cases e
  refine ⟨W1.new T (.tup [.int i, xv]), Go.new ok hT, ok.new hT, rep_tup ok hT (by show 2 ≤ sizeLine; decide) (.cons ?_ (.cons (r3.mono l1) .nil))⟩
  have : (0 : Int) + i = i := by omega
  rw [this]
  exact .int _
end
/-- the items of what is walked -/
def itemsD : D → Option (List D)
 | .lst xs => some xs
 | .tup xs => some xs
 | .str x => some (signs x)
 | _ => none
def itA (f : FE) : FA := fun ρ μ => (f ρ μ).bind fun d μ1 => R.of (itemsD d) μ1
def itR1 (f : FA) : FA := fun ρ μ => (f ρ μ).bind fun ds μ1 => match ds with
 | [.int n] => if n ≤ 1000000 ∧ -1000000 ≤ n then .ok (upto 0 n.toNat) μ1 else .bad
 | _ => .bad
def itE (f : FA) : FA := fun ρ μ => (f ρ μ).bind fun ds μ1 => match ds with
 | [.lst xs] => .ok (enumD 0 xs) μ1
 | _ => .bad
theorem pi_or {X : Cx} {tg e : Expr} {t u : TI} (h : PI X tg e t) (h' : PI X tg e u) : PI X tg e (fun σ H Q => t σ H Q ∨ u σ H Q) := ⟨fun pins s σ H Q I q => by
 rcases q with q | q
 ·exact h.run pins s σ H Q I q
 ·exact h'.run pins s σ H Q I q⟩
section
variable {X : Cx} {E : WX} {tg e : Expr} {f : FE} {pos p : Pos}
theorem di_any (h : DE X E e f) : DI X E tg e (itA f) := by
 refine pi_imp (pi_or (pi_list h) (pi_or (pi_tup h) (pi_str h))) fun σ H Q ⟨W, ρ, μ, ok, en, p⟩ => ?_
 unfold itA at p
 revert p
 cases hf : f ρ μ with
 | ex c fs μ1 =>
  intro p
  refine .inl ⟨W, ρ, μ, ok, en, ?_⟩
  rw [hf]
  exact p
 | bad => exact fun p => p.elim
 | ok d μ1 =>
  rw [R.bind_ok]
  cases d with
  | lst xs =>
   intro p
   refine .inl ⟨W, ρ, μ, ok, en, ?_⟩
   rw [hf]
   intro W1 v H1 g1 o1 r
   cases r with
   | lst z h r => exact ⟨_, rfl, ⟨_, (same_lq o1.sub h).sq⟩, p W1 _ H1 g1 o1 (walk_list z h.sq r)⟩
  | tup xs =>
   intro p
   refine .inr (.inl ⟨W, ρ, μ, ok, en, ?_⟩)
   rw [hf]
   intro W1 v H1 g1 o1 r
   cases r with
   | tup z h r => exact ⟨_, rfl, ⟨_, same_t o1.sub h⟩, p W1 _ H1 g1 o1 (walk_tup z h r)⟩
  | str x =>
   intro p
   refine .inr (.inr ⟨W, ρ, μ, ok, en, ?_⟩)
   rw [hf]
   intro W1 v H1 g1 o1 r
   cases r with
   | str _ z => exact ⟨_, rfl, p W1 _ H1 g1 o1 (walk_str x z)⟩
  | _ => exact fun p => p.elim
theorem di_range1 {fa : FA} (hm : X.mg "range" = none) (ha : DA X E [e] fa) (hg : Gl X "range" := by rfl) (hs : starEach [e] X.env = [(false, eval e X.env)] := by rfl) : DI X E tg (.Call (.Name "range" p) [e] [] pos) (itR1 fa) := by
 refine pi_imp (pi_range1 hg hm ha hs) fun σ H Q ⟨W, ρ, μ, ok, en, p⟩ => ?_
 refine ⟨W, ρ, μ, ok, en, ?_⟩
 unfold itR1 at p
 revert p
 cases fa ρ μ with
 | ex c fs μ1 => exact fun p => p
 | bad => exact fun p => p.elim
 | ok ds μ1 =>
  rw [R.bind_ok]
  intro p W1 vs H1 g1 o1 r
  match ds, r, p with
  | [.int n], .cons r .nil, p =>
   cases r
   dsimp only at p
   by_cases hn : n ≤ 1000000 ∧ -1000000 ≤ n
   ·rw [if_pos hn] at p
    exact ⟨n, rfl, by omega, by omega, p W1 _ H1 g1 o1 (walk_range 0 n.toNat (by show n.toNat ≤ 16777216; omega))⟩
   ·rw [if_neg hn] at p
    exact p.elim
end

/-! ### displays -/
def dtup (f : FA) : FE := fun ρ μ => (f ρ μ).bind fun ds μ1 => if ds.length ≤ 1000000 then .ok (.tup ds) μ1 else .bad
def dlst (f : FA) : FE := fun ρ μ => (f ρ μ).bind fun ds μ1 => if ds.length ≤ 1000000 then .ok (.lst ds) μ1 else .bad
/-- a list that is changed later: a cell -/
def dcel (f : FA) : FE := fun ρ μ => (f ρ μ).bind fun ds μ1 => if ds.length ≤ 1000000 then .ok (.hdl μ1.length) (μ1 ++ [.lst ds]) else .bad
/-- a cell's list that never changes any more -/
def dfrz (f : FE) : FE := fun ρ μ => (f ρ μ).bind fun d μ1 => match d with
 | .hdl l => match μ1[l]? with
  | some (.lst xs) => if xs.length ≤ 1000000 then .ok (.lst xs) (μ1.set l .gone) else .bad
  | _ => .bad
 | _ => .bad
section
variable {X : Cx} {E : WX} {e : Expr} {es : List Expr} {f : FE} {fa : FA} {pos : Pos}
theorem le_line {n : Nat} (h : n ≤ 1000000) : n ≤ sizeLine := Nat.le_trans h (by decide)
theorem de_tup {x1 : Nat} (h : DA X E es fa) : DE X E (.Tuple es x1 pos) (dtup fa) := pe_imp (pe_tup h) fun σ H Q ⟨W, ρ, μ, ok, en, p⟩ => by
 refine seqA p ok en fun ds μ1 W1 xs H1 g1 o1 en1 r p1 => ?_
 by_cases hn : ds.length ≤ 1000000
 ·rw [if_pos hn] at p1
  exact ⟨by rw [r.length]; exact le_line hn, fun q hq => p1 _ _ _ (Go.new o1 hq) (o1.new hq) (rep_tup o1 hq (le_line hn) r)⟩
 ·rw [if_neg hn] at p1
  exact p1.elim
theorem de_lst (h : DA X E es fa) : DE X E (.List es pos) (dlst fa) := pe_imp (pe_lst h) fun σ H Q ⟨W, ρ, μ, ok, en, p⟩ => by
 refine seqA p ok en fun ds μ1 W1 xs H1 g1 o1 en1 r p1 => ?_
 by_cases hn : ds.length ≤ 1000000
 ·rw [if_pos hn] at p1
  exact ⟨by rw [r.length]; exact le_line hn, fun q hq => p1 _ _ _ (Go.new o1 hq) (o1.new hq) (rep_lst o1 hq (le_line hn) r)⟩
 ·rw [if_neg hn] at p1
  exact p1.elim
theorem de_cel (h : DA X E es fa) : DE X E (.List es pos) (dcel fa) := pe_imp (pe_lst h) fun σ H Q ⟨W, ρ, μ, ok, en, p⟩ => by
 refine seqA p ok en fun ds μ1 W1 xs H1 g1 o1 en1 r p1 => ?_
 by_cases hn : ds.length ≤ 1000000
 ·rw [if_pos hn] at p1
  refine ⟨by rw [r.length]; exact le_line hn, fun q hq => p1 (W1.cell q) _ _ (Go.cell o1 hq) (o1.newcell hq ⟨xs, rfl, r⟩) (.hdl ?_)⟩
  show (W1.io ++ [q])[μ1.length]? = some q
  rw [← o1.len]
  simp
 ·rw [if_neg hn] at p1
  exact p1.elim
theorem de_frz (h : DE X E e f) : DE X E e (dfrz f) := pe_imp h fun σ H Q ⟨W, ρ, μ, ok, en, p⟩ => by
 refine seq p ok en fun d μ1 W1 v H1 g1 o1 en1 r p1 => ?_
 cases d with
 | hdl l =>
  cases r with
  | @hdl a _ ha =>
   revert p1
   dsimp only
   cases hm : μ1[l]? with
   | none => exact fun p => p.elim
   | some m =>
    cases m with
    | lst xs =>
     by_cases hn : xs.length ≤ 1000000
     ·dsimp only
      rw [if_pos hn]
      intro p1
      obtain ⟨o, ho, vs, rfl, rs⟩ := o1.cell l a _ ha hm
      obtain ⟨ok2, g2⟩ := o1.freeze ha hm (fun z => nomatch z) ho
      exact p1 _ _ _ g2 ok2 (.lst (le_line hn) (.inl (.inl (show upd W1.S a (.lst vs) a = _ from upd_same))) (rs.mono g2.le))
     ·dsimp only
      rw [if_neg hn]
      exact fun p => p.elim
    | _ => exact fun p => p.elim
 | _ => exact p1.elim
end
end DL
/-! DL3: defs and their calls. -/
namespace DL
open PySem L2

/-! ### no handle from n on -/
mutual
def D.closed (n : Nat) : D → Bool
 | .hdl l => decide (l < n)
 | .tup xs => D.closedL n xs
 | .lst xs => D.closedL n xs
 | .obj _ fs => D.closedF n fs
 | .exc _ fs => D.closedF n fs
 | .dtc _ xs => D.closedL n xs
 | _ => true
def D.closedL (n : Nat) : List D → Bool
 | [] => true
 | x :: xs => x.closed n && D.closedL n xs
def D.closedF (n : Nat) : List (Str × D) → Bool
 | [] => true
 | (_, x) :: xs => x.closed n && D.closedF n xs
end
theorem closedF_zip {n : Nat} : ∀ {ns : List Str} {ds : List D}, D.closedF n (ns.zip ds) = true → ns.length = ds.length → D.closedL n ds = true
 | [], [], _, _ => by simp [D.closedL]
 | [], _ :: _, _, e => by cases e
 | _ :: _, [], _, e => by cases e
 | m :: ns, d :: ds, h, e => by
  simp [D.closedF, D.closedL] at h ⊢
  exact ⟨h.1, closedF_zip h.2 (by simpa using e)⟩
def MO.closed (n : Nat) : MO → Bool
 | .lst xs => D.closedL n xs
 | .dct _ xs => D.closedL n xs
 | .dtt _ xs => D.closedL n xs
 | .ins _ _ xs => D.closedL n xs
 | .gone => true
theorem take_get {l : List Addr} {n i : Nat} {a : Addr} (h : l[i]? = some a) (hi : i < n) : (l.take n)[i]? = some a := by
 rw [List.getElem?_take_of_lt hi]
 exact h
mutual
theorem Rep.cut {K : PySem.W.Frag} {W : Wd} {n : Nat} : ∀ {v : V} {d : D}, d.closed n = true → Rep K W v d → Rep K ⟨W.S, W.io.take n⟩ v d
 | _, _, _, .non => .non
 | _, _, _, .bl b => .bl b
 | _, _, _, .int i => .int i
 | _, _, _, .str x z => .str x z
 | _, _, c, .tup z h r => .tup z h (Reps.cut (by simpa [D.closed] using c) r)
 | _, _, c, .lst z h r => .lst z h (Reps.cut (by simpa [D.closed] using c) r)
 | _, _, c, .hdl h => .hdl (take_get h (by simpa [D.closed] using c))
 | _, _, _, .cst v => .cst v
 | _, _, _, .glo c => .glo c
 | _, _, c, .obj h e r => .obj h e (Reps.cut (closedF_zip (by simpa [D.closed] using c) (e.trans r.length)) r)
 | _, _, c, .exc h r => .exc h (Reps.cut (closedF_zip (by simpa [D.closed] using c) (h.len.trans r.length)) r)
 | _, _, c, .dtc h v r => .dtc h v (Reps.cut (by simpa [D.closed] using c) r)
theorem Reps.cut {K : PySem.W.Frag} {W : Wd} {n : Nat} : ∀ {vs : List V} {ds : List D}, D.closedL n ds = true → Reps K W vs ds → Reps K ⟨W.S, W.io.take n⟩ vs ds
 | _, _, _, .nil => .nil
 | _, _, c, .cons r t => by
  simp [D.closedL] at c
  exact .cons (Rep.cut c.1 r) (Reps.cut c.2 t)
end
theorem CellO.cut {K : PySem.W.Frag} {W : Wd} {n : Nat} : ∀ {m : MO} {o : HO}, m.closed n = true → CellO K W m o → CellO K ⟨W.S, W.io.take n⟩ m o
 | .lst ds, _, c, ⟨vs, e, r⟩ => ⟨vs, e, r.cut c⟩
 | .dct ks ds, _, c, ⟨vs, e, z, r⟩ => ⟨vs, e, z, r.cut c⟩
 | .dtt ks ds, _, c, ⟨a, xs, vs, r⟩ => ⟨a, xs, vs, r.is, r.sys, r.key, r.whole, r.nd, r.at_, r.val, r.rep.cut c, r.len, r.nc⟩
 | .ins C ns ds, _, c, ⟨dx, vs, e, z, r⟩ => ⟨dx, vs, e, z, r.cut c⟩
 | .gone, _, _, h => h
def closedMu (n : Nat) (μ : Mu) : Bool := (μ.take n).all (·.closed n)
/-- a def's answer: its own cells are forgotten where nothing points there -/
def trunc (n : Nat) (d : D) (μ : Mu) : R D := if (d.closed n && closedMu n μ) = true then .ok d (μ.take n) else .ok d μ
def truncX (n : Nat) (c : Nat) (fs : List (Str × D)) (μ : Mu) : R D := if (D.closedF n fs && closedMu n μ) = true then .ex c fs (μ.take n) else .ex c fs μ
theorem Ok.cut {K : PySem.W.Frag} {W : Wd} {H : Hp} {μ : Mu} {n : Nat} (ok : Ok K W H μ) (c : closedMu n μ = true) : Ok K ⟨W.S, W.io.take n⟩ H (μ.take n) := by
 have get : ∀ (l : Nat) a m, (W.io.take n)[l]? = some a → (μ.take n)[l]? = some m → l < n ∧ W.io[l]? = some a ∧ μ[l]? = some m := fun l a m e1 e2 => by
  have hl : l < n := by
   have := (List.getElem?_eq_some_iff.mp e1).1
   rw [List.length_take] at this
   omega
  rw [List.getElem?_take_of_lt hl] at e1 e2
  exact ⟨hl, e1, e2⟩
 refine ⟨ok.sub, by simp [ok.len], ok.nd.sublist (List.take_sublist _ _), fun l a m e1 e2 z => ?_, fun l a m e1 e2 => ?_, ⟨ok.tab.all, ok.tab.no⟩⟩
 ·obtain ⟨_, e1, e2⟩ := get l a m e1 e2
  exact ok.apart l a m e1 e2 z
 ·have hm : m.closed n = true := by
   unfold closedMu at c
   exact List.all_eq_true.mp c m (List.mem_of_getElem? e2)
  obtain ⟨_, e1, e2⟩ := get l a m e1 e2
  obtain ⟨o, ho, r⟩ := ok.cell l a m e1 e2
  exact ⟨o, ho, r.cut hm⟩
theorem Go.cut {W W' : Wd} {H H' : Hp} (g : Go W H W' H') : Go W H ⟨W'.S, W'.io.take W.io.length⟩ H' := by
 have e : W'.io.take W.io.length = W.io := by
  obtain ⟨t, ht⟩ := g.le.io
  rw [← ht]
  simp
 refine ⟨⟨g.le.s, by rw [e]; exact List.prefix_refl _⟩, g.kept, g.grow, fun a h => ?_, g.newS⟩
 have h : a ∈ W'.io.take W.io.length := h
 rw [e] at h
 exact .inl h
theorem ExcIs.cut {K : PySem.W.Frag} {W : Wd} {H : Hp} {n : Nat} {fs : List (Str × D)} {d : Option Addr} (c : D.closedF n fs = true) (x : ExcIs K W H fs d) : ExcIs K ⟨W.S, W.io.take n⟩ H fs d := by
 rcases x with x | ⟨a, ns, vs, ds, h1, h2, h3, h4, h5⟩
 ·exact .inl x
 ·subst h3
  exact .inr ⟨a, ns, vs, ds, h1, h2, rfl, h4, h5.cut (closedF_zip c (h4.trans h5.length))⟩

/-! ### a def's answer by its body -/
def startD (n : Nat) (ds : List D) : En := ds.map some ++ List.replicate (n - ds.length) none
def callF (n : Nat) (g : FS) (ds : List D) (μ : Mu) : R D := match g (startD n ds) μ with
 | .rt d μ1 => trunc μ.length d μ1
 | .nx _ μ1 => trunc μ.length .non μ1
 | .ex _ c fs μ1 => truncX μ.length c fs μ1
 | _ => .bad
theorem envs_start {K : PySem.W.Frag} {W : Wd} {N : List Str} {vs : List V} {ds : List D} (r : Reps K W vs ds) : Envs K W (start N vs) (startD N.length ds) := by
 have hl := r.length
 unfold L2.start startD
 refine ⟨by simp [hl], fun i d e => ?_⟩
 by_cases h : i < ds.length
 ·rw [List.getElem?_append_left (by simpa using h), List.getElem?_map] at e
  cases q : ds[i]? with
  | none => rw [q] at e; cases e
  | some d' =>
   rw [q] at e
   cases e
   obtain ⟨v, e1, r1⟩ := r.get q
   refine ⟨v, ?_, r1⟩
   rw [List.getElem?_append_left (by rw [List.length_map, hl]; exact h), List.getElem?_map, e1]
   rfl
 ·rw [List.getElem?_append_right (by simpa using h)] at e
  have := List.mem_of_getElem? e
  simp at this
/-- a def that keeps F, by at most level k, where no repr is under way -/
structure FnG (P : Program) (w : World) (K : PySem.W.Frag) (mg : Str → Option Value) (base : Heap) (k : Nat) (f : Addr) (fd : FuncData) (ps : List Str) (F : List D → Mu → R D) : Prop where
 run : ∀ (A : Around) (outer : List Env) (s : Shared) (H : Hp) (args : Args) (us : List Value) (vs : List V) (Q : VK) (E : XK) (W : Wd) (ds : List D) (μ : Mu), Room k A → A.guards = some [] → Env0 P w K mg base A outer s H →
  us.length = ps.length → BindsTo s fd args (ps.zip us) → Vals vs us → Ok K W H μ → Reps K W vs ds → postE K E W H (F ds μ) Q → codeAny (model P w) A (.call (.ref f) args) (CR (L2.CX P w) outer P w H s Q E) s
theorem FnG.mono {P : Program} {w : World} {K : PySem.W.Frag} {mg : Str → Option Value} {base : Heap} {j k : Nat} {f : Addr} {fd : FuncData} {ps : List Str} {F : List D → Mu → R D} (h : FnG P w K mg base j f fd ps F) (l : j ≤ k) : FnG P w K mg base k f fd ps F :=
 ⟨fun A outer s H args us vs Q E W ds μ hr => h.run A outer s H args us vs Q E W ds μ (hr.mono l)⟩
/-- .. another function that is the same where it is no bad one -/
theorem FnG.congr {P : Program} {w : World} {K : PySem.W.Frag} {mg : Str → Option Value} {base : Heap} {k : Nat} {f : Addr} {fd : FuncData} {ps : List Str} {F G : List D → Mu → R D} (h : FnG P w K mg base k f fd ps F) (e : ∀ ds μ, ds.length = ps.length → G ds μ ≠ .bad → F ds μ = G ds μ) : FnG P w K mg base k f fd ps G :=
 ⟨fun A outer s H args us vs Q E W ds μ hr hg e0 hl hb rv ok r p => h.run A outer s H args us vs Q E W ds μ hr hg e0 hl hb rv ok r (by
  have hd : ds.length = ps.length := by rw [← r.length, rv.length, hl]
  have hn : G ds μ ≠ .bad := fun z => by rw [z] at p; exact p
  rw [e ds μ hd hn]
  exact p)⟩
/-- where no argument has a handle the cells are nothing to it -/
def framed (F : List D → Mu → R D) (ds : List D) (μ : Mu) : R D := if D.closedL 0 ds = true then (match F ds [] with
  | .ok d μ1 => if d.closed 0 = true then .ok d μ else F ds μ
  | .ex c fs μ1 => if D.closedF 0 fs = true then .ex c fs μ else F ds μ
  | .bad => .bad) else F ds μ
theorem Ok.none {K : PySem.W.Frag} {W : Wd} {H : Hp} {μ : Mu} (ok : Ok K W H μ) : Ok K ⟨W.S, []⟩ H [] :=
 ⟨ok.sub, rfl, List.nodup_nil, fun l a o e => by simp at e, fun l a o e => by simp at e, ⟨ok.tab.all, ok.tab.no⟩⟩
theorem Go.back {K : PySem.W.Frag} {W W' : Wd} {H H' : Hp} {μ μ1 : Mu} (ok : Ok K W H μ) (g : Go ⟨W.S, []⟩ H W' H') (o : Ok K W' H' μ1) : Go W H ⟨W'.S, W.io⟩ H' ∧ Ok K ⟨W'.S, W.io⟩ H' μ := by
 have le : Le W ⟨W'.S, W.io⟩ := ⟨g.le.s, List.prefix_refl _⟩
 have nw : ∀ a u, W'.S a = some u → W.S a = some u ∨ H a = .none := fun a u e => by
  rcases g.newS a u e with z | z | z
  ·exact .inl z
  ·exact .inr z
  ·cases z
 refine ⟨⟨le, fun a u e _ nt => g.kept a u e (by simp) nt, g.grow, fun a e => .inl e, fun a u e => ?_⟩, ⟨o.sub, ok.len, ok.nd, fun l a m e1 e2 n => ?_, fun l a m e1 e2 => ?_, ⟨o.tab.all, o.tab.no⟩⟩⟩
 ·rcases nw a u e with z | z
  ·exact .inl z
  ·exact .inr (.inl z)
 ·show W'.S a = .none
  cases e : W'.S a with
  | none => rfl
  | some u =>
   rcases nw a u e with z | z
   ·rw [ok.apart l a m e1 e2 n] at z
    cases z
   ·obtain ⟨v, hv, _⟩ := ok.cell l a m e1 e2
    rw [z] at hv
    cases hv
 ·obtain ⟨u, hu, cu⟩ := ok.cell l a m e1 e2
  exact ⟨u, g.kept a u hu (by simp) cu.notbl, cu.mono le⟩
theorem Le.io0 {S : Hp} {io : List Addr} : Le ⟨S, []⟩ ⟨S, io⟩ := ⟨Same.refl _, List.nil_prefix⟩
theorem FnG.framed {P : Program} {w : World} {K : PySem.W.Frag} {mg : Str → Option Value} {base : Heap} {k : Nat} {f : Addr} {fd : FuncData} {ps : List Str} {F : List D → Mu → R D} (h : FnG P w K mg base k f fd ps F) : FnG P w K mg base k f fd ps (DL.framed F) := by
 refine ⟨fun A outer s H args us vs Q E W ds μ hr hg e0 hl hb rv ok r p => ?_⟩
 have plain : postE K E W H (F ds μ) Q → codeAny (model P w) A (.call (.ref f) args) (CR (L2.CX P w) outer P w H s Q E) s := fun p => h.run A outer s H args us vs Q E W ds μ hr hg e0 hl hb rv ok r p
 unfold DL.framed at p
 by_cases c : D.closedL 0 ds = true
 ·rw [if_pos c] at p
  have r0 : Reps K ⟨W.S, []⟩ vs ds := by
   have := r.cut c
   rwa [List.take_zero] at this
  cases hF : F ds [] with
  | ok d μ1 =>
   rw [hF] at p
   dsimp only at p
   by_cases cd : d.closed 0 = true
   ·rw [if_pos cd] at p
    refine h.run A outer s H args us vs Q E ⟨W.S, []⟩ ds [] hr hg e0 hl hb rv ok.none r0 ?_
    rw [hF]
    intro W' v H' g o r'
    obtain ⟨g2, o2⟩ := Go.back ok g o
    refine p ⟨W'.S, W.io⟩ v H' g2 o2 ?_
    have r2 := r'.cut cd
    rw [List.take_zero] at r2
    exact r2.mono Le.io0
   ·rw [if_neg cd] at p
    exact plain p
  | ex cc fs μ1 =>
   rw [hF] at p
   dsimp only at p
   by_cases cd : D.closedF 0 fs = true
   ·rw [if_pos cd] at p
    refine h.run A outer s H args us vs Q E ⟨W.S, []⟩ ds [] hr hg e0 hl hb rv ok.none r0 ?_
    rw [hF]
    intro W' H' d g o x
    obtain ⟨g2, o2⟩ := Go.back ok g o
    refine p ⟨W'.S, W.io⟩ H' d g2 o2 ?_
    have x2 := x.cut cd
    rw [List.take_zero] at x2
    rcases x2 with z | ⟨a, ns, vs', ds', z1, z2, z3, z4, z5⟩
    ·exact .inl z
    ·exact .inr ⟨a, ns, vs', ds', z1, z2, z3, z4, z5.mono Le.io0⟩
   ·rw [if_neg cd] at p
    exact plain p
  | bad =>
   rw [hF] at p
   exact p.elim
 ·rw [if_neg c] at p
  exact plain p
/-- the calm context of a body -/
structure Cal (X : Cx) (E : WX) (k : Nat) : Prop where
 room : Room k X.A
 guards : X.A.guards = some []
 take : Takes X E
theorem Cal.pass {X : Cx} {E : WX} {k : Nat} (c : Cal X E k) : ∀ σ, PassesAt (L2.CX X.prog X.w) X σ (WE E σ) := passAt c.take
theorem take0 {X : Cx} : Takes X E0 := takes0
theorem pass0 {X : Cx} : ∀ σ, PassesAt (L2.CX X.prog X.w) X σ (WE E0 σ) := fun _ _ _ _ _ _ _ h => by
 obtain ⟨_, _, _, _, _, _, _, _, _, _, _, _, z⟩ := h
 exact z.elim
theorem Cal.mono {X : Cx} {E : WX} {j k : Nat} (c : Cal X E k) (h : j ≤ k) : Cal X E j := ⟨c.room.mono h, c.guards, c.take⟩
theorem Cal.blk {X : Cx} {E : WX} {k : Nat} (c : Cal X E k) (s : Shared) (H : Hp) (scope : Scope) (env : Env) (fp : List Addr) : Cal (X.blk s H scope env fp) E0 k := ⟨c.room, c.guards, take0⟩
theorem trunc_post {K : PySem.W.Frag} {E : XK} {W W' : Wd} {H H' : Hp} {μ μ1 : Mu} {d : D} {v : V} {Q : VK} (hl : W.io.length = μ.length) (p : postE K E W H (trunc μ.length d μ1) Q) (g : Go W H W' H') (o : Ok K W' H' μ1) (r : Rep K W' v d) : Q v H' := by
 unfold trunc at p
 by_cases c : (d.closed μ.length && closedMu μ.length μ1) = true
 ·rw [if_pos c] at p
  simp only [Bool.and_eq_true] at c
  have g' := g.cut
  rw [hl] at g'
  exact p _ v H' g' (o.cut c.2) (r.cut c.1)
 ·rw [if_neg c] at p
  exact p W' v H' g o r
theorem truncX_post {K : PySem.W.Frag} {E : XK} {W W' : Wd} {H H' : Hp} {μ μ1 : Mu} {c : Nat} {fs : List (Str × D)} {d : Option Addr} {Q : VK} (hl : W.io.length = μ.length) (p : postE K E W H (truncX μ.length c fs μ1) Q) (g : Go W H W' H') (o : Ok K W' H' μ1) (r : ExcIs K W' H' fs d) : E (.ref (cl K c)) d H' := by
 unfold truncX at p
 by_cases z : (D.closedF μ.length fs && closedMu μ.length μ1) = true
 ·rw [if_pos z] at p
  simp only [Bool.and_eq_true] at z
  have g' := g.cut
  rw [hl] at g'
  exact p _ H' d g' (o.cut z.2) (r.cut z.1)
 ·rw [if_neg z] at p
  exact p W' H' d g o r
section
variable {P : Program} {w : World} {K : PySem.W.Frag} {mg : Str → Option Value} {base : Heap}
/-- a def's body keeps its F -/
theorem fn_body {k : Nat} {f : Addr} {name qual : Str} {params : Arguments} {body : List Stmt} {scope : Scope} {dV kV doc pm cdv ct oc : Value} {an od : Option Addr} {osl : Array (Option Value)} {N ps : List Str} {g : FS}
  (lk : K.lookup f = some ⟨oc, od, .func (PySem.W.fnOf name qual params body scope dV kV doc pm an cdv ct), osl⟩) (hcd : PySem.W.codeIn K cdv qual = true) (sc : FnScope N ps scope)
  (hb : ∀ (A : Around) (outer : List Env) (s : Shared) (H : Hp) (E : XK), Cal (cxOf (L2.CX P w) P w K mg base N qual scope f cdv A outer s H E) (lift E) k → DSs (cxOf (L2.CX P w) P w K mg base N qual scope f cdv A outer s H E) (lift E) body g) :
  FnG P w K mg base (k + 1) f (PySem.W.fnOf name qual params body scope dV kV doc pm an cdv ct) ps (callF N.length g) := by
 refine ⟨fun A outer s H args us vs Q E W ds μ hr hg e0 hl hbd rv ok r p => ?_⟩
 have hvl : vs.length = ps.length := by rw [rv.length, hl]
 have kin : K.In s.heap := e0.mod.kin.keeps fun b o e => (e0.bs b o e).1
 have nl : s.heap.NoLimit := e0.mod.nolimit.keeps fun b o e => (e0.bs b o e).1
 have kinds : ∀ y ∈ ps.zip us, scope.names.lookup y.1 = some .local ∨ (scope.names.lookup y.1 = some .cell ∧ ((cellsFrom (s.heap.objs.size + 1) scope.names []).lookup y.1).isSome = true) := by
  rintro ⟨n, v⟩ hy
  rcases sc.par n (List.of_mem_zip hy).1 with q | q
  ·exact .inl q
  ·exact .inr ⟨q, PySem.W.cellsFrom_some _ _ _ (.inl q)⟩
 have X0 : Cal (cxOf (L2.CX P w) P w K mg base N qual scope f cdv A outer s H E) (lift E) k :=
  ⟨hr.deeper _, hg, takes_of rfl rfl rfl rfl⟩
 refine codeAny_call_function hr.depth (kin _ _ lk) rfl sc.co sc.gen rfl (PySem.W.codeRec_of kin hcd) (hbd _ _ _ _ ?_)
 refine wpAny_newFunctionEnv_cells sc.kind kinds fun env he s1 x => ?_
 subst he
 refine ⟨nl.keeps x.toInCall.keep, codeAny_func ?_⟩
 have I0 : Inv (cxOf (L2.CX P w) P w K mg base N qual scope f cdv A outer s H E) [] (start N vs) H s1 := inv_start sc hr.hd e0 hvl rv x
 have rd : rS K (lift E) g { nx := fun _ H' => Q .non H', rt := Q } (start N vs) H := by
  refine ⟨W, startD N.length ds, μ, ok, envs_start r, ?_⟩
  unfold callF at p
  revert p
  cases g (startD N.length ds) μ with
  | rt d μ1 => exact fun p W' v H' g o r => trunc_post ok.len p g o r
  | nx ρ1 μ1 => exact fun p W' σ' H' g o _ => trunc_post ok.len p g o .non
  | ex ρ1 c fs μ1 => exact fun p W' σ' H' d g o _ r => truncX_post ok.len p g o r
  | bk _ _ => exact fun p => p.elim
  | ct _ _ => exact fun p => p.elim
  | bad => exact fun p => p
 refine wpAny_mono ((hb A outer s H E X0).run [] s1 (start N vs) H _ I0 rd) (fun fl s2 hs => ?_) fun e s2 hs => hs
 have fin : ∀ {σ' : St} {H' : Hp} {v : V} {u : Value}, Inv (cxOf (L2.CX P w) P w K mg base N qual scope f cdv A outer s H E) [] σ' H' s2 → RelV v u → Q v H' → CE outer P w H s Q u s2 :=
  fun {σ' H' v u} J rr q => ⟨v, H', J.os, J.bare, J.base, J.hok, rr, q⟩
 cases fl with
 | ret u =>
  have ⟨v, σ', H', J, rr, q⟩ := hs
  exact fin J rr q
 | next =>
  have ⟨σ', H', J, q⟩ := hs
  exact fin (v := V.non) (u := Value.none) J rfl q
 | brk =>
  have ⟨_, _, _, q⟩ := hs
  exact absurd q id
 | cont =>
  have ⟨_, _, _, q⟩ := hs
  exact absurd q id
theorem Fun.g {x qual : Str} {st : Stmt} {f : Addr} {fd : FuncData} {N ps : List Str} {k : Nat} {g : FS} (F : Fun K x qual st f fd) (sc : FnScope N ps (defScope st))
  (hb : ∀ (cdv : Value) (A : Around) (outer : List Env) (s : Shared) (H : Hp) (E : XK), Cal (cxOf (L2.CX P w) P w K mg base N qual (defScope st) f cdv A outer s H E) (lift E) k → DSs (cxOf (L2.CX P w) P w K mg base N qual (defScope st) f cdv A outer s H E) (lift E) (defBody st) g) :
  FnG P w K mg base (k + 1) f fd ps (callF N.length g) := by
 obtain ⟨oc, od, kV, doc, pm, an, cdv, ct, osl, rfl, lk, hcd⟩ := F.ex
 exact fn_body lk hcd sc (hb cdv)
theorem FunD.g {x qual : Str} {params : Arguments} {body : List Stmt} {scope : Scope} {dvs : List V} {kws : List (Str × V)} {f : Addr} {fd : FuncData} {N ps : List Str} {k : Nat} {g : FS} (F : FunD K x qual params body scope dvs kws f fd) (sc : FnScope N ps scope)
  (hb : ∀ (cdv : Value) (A : Around) (outer : List Env) (s : Shared) (H : Hp) (E : XK), Cal (cxOf (L2.CX P w) P w K mg base N qual scope f cdv A outer s H E) (lift E) k → DSs (cxOf (L2.CX P w) P w K mg base N qual scope f cdv A outer s H E) (lift E) body g) :
  FnG P w K mg base (k + 1) f fd ps (callF N.length g) := by
 obtain ⟨oc, od, dV, kV, doc, pm, an, cdv, ct, osl, rfl, lk, hcd, _, _⟩ := F.ex
 exact fn_body lk hcd sc (hb cdv)
end

/-! ### calls -/
def HasLen (fa : FA) (n : Nat) : Prop := ∀ ρ μ ds μ1, fa ρ μ = .ok ds μ1 → ds.length = n
theorem aNil_len : HasLen aNil 0 := fun ρ μ ds μ1 h => by
 unfold aNil at h
 cases h
 rfl
theorem aCons_len {f : FE} {g : FA} {n : Nat} (h : HasLen g n) : HasLen (aCons f g) (n + 1) := fun ρ μ ds μ1 e => by
 unfold aCons at e
 cases hf : f ρ μ with
 | ok d μ2 =>
  rw [hf, R.bind_ok] at e
  cases hg : g ρ μ2 with
  | ok es μ3 =>
   rw [hg, R.bind_ok] at e
   cases e
   rw [List.length_cons, h _ _ _ _ hg]
  | ex c fs μ3 => rw [hg] at e; cases e
  | bad => rw [hg] at e; cases e
 | ex c fs μ2 => rw [hf] at e; cases e
 | bad => rw [hf] at e; cases e
def dcall (F : List D → Mu → R D) (dd : List D) (fa : FA) : FE := fun ρ μ => (fa ρ μ).bind fun ds μ1 => F (ds ++ dd) μ1
section
variable {X : Cx} {E : WX} {k : Nat} {f : Addr} {fd : FuncData} {ps : List Str} {F : List D → Mu → R D} {dvs : List V} {dd : List D} {d0 : List Value} {x : Str} {p pos : Pos} {e : Expr} {es : List Expr} {fa : FA}
theorem run_g {pins : List (Addr × Obj)} {σ : St} {H : Hp} {s : Shared} {Q : VK} {us : List Value} {vs : List V} {args : Args} {W : Wd} {ds : List D} {μ : Mu} (G : FnG X.prog X.w X.K X.mg X.base k f fd ps F) (c : Cal X E k)
  (I : Inv X pins σ H s) (hl : us.length = ps.length) (hb : BindsTo s fd args (ps.zip us)) (rv : Vals vs us) (ok : Ok X.K W H μ) (r : Reps X.K W vs ds) (q : postE X.K (WE E σ) W H (F ds μ) Q) :
  codeAny (model X.prog X.w) X.A (.call (.ref f) args) (callEnd (EP X pins σ Q) X.xe) s := by
 refine codeAny_mono (G.run X.A X.stack s H args us vs Q (WE E σ) W ds μ c.room c.guards I.env0 hl hb rv ok r q) fun z s2 hz => ?_
 match z, hz with
 | .error e, hz => exact c.pass σ pins H s e s2 I hz
 | .ok (.ret u), hz => exact I.after hz
/-- the defaults that fill up -/
structure Dfl (K : PySem.W.Frag) (fd : FuncData) (ps : List Str) (n : Nat) (dd : List D) : Prop where
 ex : ∃ (dvs : List V) (d0 : List Value), Vals dvs d0 ∧ (∀ W, Reps K W dvs dd) ∧ n + d0.length = ps.length ∧ Binds K fd ps d0
theorem dfl0 {K : PySem.W.Frag} {fd : FuncData} {ps : List Str} (b : Binds K fd ps []) : Dfl K fd ps ps.length [] := ⟨[], [], .nil, fun _ => .nil, rfl, b⟩
theorem callF_args {pins : List (Addr × Obj)} {σ : St} {H : Hp} {s : Shared} {Q : VK} {us : List Value} {vs : List V} {W : Wd} {ds : List D} {μ : Mu} {n : Nat} (G : FnG X.prog X.w X.K X.mg X.base k f fd ps F) (c : Cal X E k) (b : Dfl X.K fd ps n dd)
  (I : Inv X pins σ H s) (hn : us.length = n) (rv : Vals vs us) (ok : Ok X.K W H μ) (r : Reps X.K W vs ds) (q : postE X.K (WE E σ) W H (F (ds ++ dd) μ) Q) : wpAny (model X.prog X.w) X.A (call (.ref f) us) (EP X pins σ Q) X.xe s := by
 obtain ⟨dvs, d0, r0, rd, hl, hb⟩ := b.ex
 have hlen : (us ++ d0).length = ps.length := by rw [List.length_append, hn]; exact hl
 exact wpAny_call (run_g (args := ⟨us, []⟩) G c I hlen (hb s us I.kIn hlen) (rv.append r0) ok (r.app (rd W)) q)
theorem de_call (G : FnG X.prog X.w X.K X.mg X.base k f fd ps F) (c : Cal X E k) (hm : X.mg x = some (.ref f)) (hk : PySem.W.keepIn X.K (.ref f) = true) (b : Dfl X.K fd ps (e :: es).length dd) (ha : DA X E (e :: es) fa)
  (hf : HasLen fa (e :: es).length := by repeat (first | exact aNil_len | refine aCons_len ?_)) (hg : Gl X x := by rfl) (hdb : (x == ("__debug__" : Str)) = false := by decide) (he : starEach (e :: es) X.env = (false, eval e X.env) :: starEach es X.env := by rfl) (hpl : (backTo pos (starEach es X.env)).any (·.1) = false := by rfl) :
  DE X E (.Call (.Name x p) (e :: es) [] pos) (dcall F dd fa) := by
 refine ⟨fun pins s σ H Q I q => ?_⟩
 obtain ⟨W, ρ, μ, ok, en, pq⟩ := q
 refine wpAny_Call_Name_kw (ld_glob I hg hm ?_ hdb)
 unfold dcall at pq
 have rd : rA X.K E fa σ H (fun vs H1 => ∃ W1 ds μ1, vs.length = (e :: es).length ∧ Ok X.K W1 H1 μ1 ∧ Reps X.K W1 vs ds ∧ postE X.K (WE E σ) W1 H1 (F (ds ++ dd) μ1) Q) := by
  refine ⟨W, ρ, μ, ok, en, ?_⟩
  revert pq
  cases hq : fa ρ μ with
  | ok ds μ1 => exact fun p W1 xs H1 g o r => ⟨W1, ds, μ1, by rw [r.length]; exact hf ρ μ ds μ1 hq, o, r, post.mono g p⟩
  | ex c fs μ1 => exact fun p => p
  | bad => exact fun p => p
 refine PySem.W.callWith_K (h₀ := X.base) I.ok.mod.kin hk (thn (ha.run pos pins s σ H _ I rd) fun us s1 ⟨vs, H1, I1, r, W1, ds, μ1, hn, o1, r1, q1⟩ => ⟨I1.kIn, ?_⟩) he hpl
 exact callF_args G c b I1 (show us.length = _ by rw [← r.length]; exact hn) r o1 r1 q1
end
end DL
/-! DL4: operators, comparisons, built-ins over data. -/
namespace DL
open PySem L2

/-! ### operators by the kinds of their data -/
def rD (K : PySem.W.Frag) (E : WX) (g : D → D → Mu → R D) : R2 := fun x y H Q => ∃ (E' : XK) (W : Wd) (μ : Mu) (dx dy : D), Ok K W H μ ∧ Rep K W x dx ∧ Rep K W y dy ∧ postE K E' W H (g dx dy μ) Q
abbrev OpX (X : Cx) (E : WX) (f : Value → Value → Sem Value) (g : D → D → Mu → R D) : Prop := OpR X f (rD X.K E g)
theorem opx {X : Cx} {E : WX} {f : Value → Value → Sem Value} {g : D → D → Mu → R D} (h : ∀ {E' : XK} W H μ dx dy vx vy Q, Ok X.K W H μ → Rep X.K W vx dx → Rep X.K W vy dy → postE X.K E' W H (g dx dy μ) Q → ∃ r, OpR X f r ∧ r vx vy H Q) : OpX X E f g := by
 intro pins s σ H x y v u Q I rx ry q
 obtain ⟨_, W, μ, dx, dy, ok, r1, r2, p⟩ := q
 obtain ⟨r, o, z⟩ := h W H μ dx dy x y Q ok r1 r2 p
 exact o pins s σ H x y v u Q I rx ry z
theorem opd_D {K : PySem.W.Frag} {E : WX} {g : D → D → Mu → R D} : OpD K E (rD K E g) g := fun E' W H μ x y vx vy Q ok rx ry p => ⟨E', W, μ, x, y, ok, rx, ry, p⟩
section
variable {X : Cx} {E : WX} {a b : Expr} {fa fb : FE} {pos : Pos} {g : D → D → Mu → R D}
theorem de_bin {op : Operator} (ho : OpX X E (binaryOp op) g) (ha : DE X E a fa) (hb : DE X E b fb) : DE X E (.BinOp a op b pos) (dbin g fa fb) := dbinop ho opd_D ha hb
theorem de_cmp {op : CmpOp} (ho : OpX X E (compareOp op) g) (ha : DE X E a fa) (hb : DE X E b fb) (hm : behindInMarks op b = false := by first | exact nomark _ | rfl) : DE X E (.Compare a [op] [b] pos) (dbin g fa fb) := dcmp ho opd_D ha hb hm
theorem dt_cmp {op : CmpOp} (ho : OpX X E (compareOp op) g) (ha : DE X E a fa) (hb : DE X E b fb) (hm : behindInMarks op b = false := by first | exact nomark _ | rfl) : DT X E (.Compare a [op] [b] pos) (dtest (dbin g fa fb)) := dtest_cmp ho opd_D ha hb hm
end

/-- an answer that makes nothing -/
theorem post_pure {K : PySem.W.Frag} {E : XK} {W : Wd} {H : Hp} {μ : Mu} {d : D} {v : V} {Q : VK} (ok : Ok K W H μ) (p : postE K E W H (.ok d μ) Q) (r : Rep K W v d) : Q v H := p W v H (Go.refl _ _) ok r

/-! ### + - * // % ** -/
def addD : D → D → Mu → R D
 | .int i, .int j, μ => .ok (.int (i + j)) μ
 | .str x, .str y, μ => if x.length + y.length ≤ 1000000 then .ok (.str (x ++ y)) μ else .bad
 | .lst xs, .lst ys, μ => if xs.length + ys.length ≤ 1000000 then .ok (.lst (xs ++ ys)) μ else .bad
 | _, _, _ => .bad
/-- one factor is below 2 ^ 64 -/
def mulD : D → D → Mu → R D
 | .int i, .int j, μ => if (-(2 ^ 64) < i ∧ i < 2 ^ 64) ∨ (-(2 ^ 64) < j ∧ j < 2 ^ 64) then .ok (.int (i * j)) μ else .bad
 | _, _, _ => .bad
def modD : D → D → Mu → R D
 | .int i, .int j, μ => if 0 < j then .ok (.int (i % j)) μ else .bad
 | _, _, _ => .bad
def fdivD : D → D → Mu → R D
 | .int i, .int j, μ => if 0 < j ∧ j < 1073741824 then .ok (.int (i / j)) μ else .bad
 | _, _, _ => .bad
def powD : D → D → Mu → R D
 | .int i, .int j, μ => if 0 ≤ j ∧ j ≤ 1000000 ∧ i.natAbs < 2 ^ 64 then .ok (.int (i ^ j.toNat)) μ else .bad
 | _, _, _ => .bad
section
variable {X : Cx} {E : WX}
theorem op_catR : OpR X (binaryOp .Add) (fun x y H Q => ∃ l b xs zs, x = .ref l ∧ y = .ref b ∧ Lq X.K H l xs ∧ Lq X.K H b zs ∧ xs.length + zs.length ≤ sizeLine ∧ ∀ p, H p = none → Q (.ref p) (upd H p (.lst (xs ++ zs)))) := by
 intro pins s σ H x y v u Q I rx ry h
 obtain ⟨l, b, xs, zs, rfl, rfl, h1, h2, hz, q⟩ := h
 cases rx
 cases ry
 obtain ⟨its, n, r, e⟩ := h1.isL I
 obtain ⟨its2, n2, r2, e2⟩ := h2.isL I
 refine PySem.P.add_list e e2 ?_ (by
  rw [List.size_toArray, List.size_toArray, ← r.length, ← r2.length]
  exact hz)
 have ea : its.toArray ++ its2.toArray = (its ++ its2).toArray := by simp
 rw [ea]
 exact ⟨.ref _, _, I.lnew (t' := s.toks) (r.append r2) (by rw [List.length_append]; exact hz), rfl, q _ I.fresh⟩
theorem strlen_app (x y : Str) : (x ++ y).length = x.length + y.length := by
 show (x.cps ++ y.cps).size = x.cps.size + y.cps.size
 simp
theorem opx_add : OpX X E (binaryOp .Add) addD := opx fun W H μ dx dy vx vy Q ok r1 r2 p => by
 unfold addD at p
 split at p
 ·cases r1; cases r2
  exact ⟨_, op_add, _, _, rfl, rfl, post_pure ok p (.int _)⟩
 ·split at p
  ·rename_i hn
   cases r1; cases r2
   exact ⟨_, op_add_str, _, _, rfl, rfl, le_line hn, post_pure ok p (.str _ (by rw [strlen_app]; exact le_line hn))⟩
  ·exact p.elim
 ·split at p
  ·rename_i hn
   cases r1 with
   | lst z1 h1 q1 =>
    cases r2 with
    | lst z2 h2 q2 =>
     refine ⟨_, op_catR, _, _, _, _, rfl, rfl, same_lq ok.sub h1, same_lq ok.sub h2, by rw [q1.length, q2.length]; exact le_line hn, fun q hq => p _ _ _ (Go.new ok hq) (ok.new hq) (rep_lst ok hq (by rw [List.length_append]; exact le_line hn) (q1.app q2))⟩
  ·exact p.elim
 ·exact p.elim
theorem opx_mul : OpX X E (binaryOp .Mult) mulD := opx fun W H μ dx dy vx vy Q ok r1 r2 p => by
 unfold mulD at p
 split at p
 ·split at p
  ·rename_i hn
   cases r1; cases r2
   exact ⟨_, op_mul, _, _, rfl, rfl, hn, post_pure ok p (.int _)⟩
  ·exact p.elim
 ·exact p.elim
theorem opx_mod : OpX X E (binaryOp .Mod) modD := opx fun W H μ dx dy vx vy Q ok r1 r2 p => by
 unfold modD at p
 split at p
 ·split at p
  ·rename_i hn
   cases r1; cases r2
   exact ⟨_, op_mod, _, _, rfl, rfl, hn, post_pure ok p (.int _)⟩
  ·exact p.elim
 ·exact p.elim
theorem opx_fdiv : OpX X E (binaryOp .FloorDiv) fdivD := opx fun W H μ dx dy vx vy Q ok r1 r2 p => by
 unfold fdivD at p
 split at p
 ·split at p
  ·rename_i hn
   cases r1; cases r2
   exact ⟨_, op_fdiv, _, _, rfl, rfl, hn, post_pure ok p (.int _)⟩
  ·exact p.elim
 ·exact p.elim
theorem opx_pow : OpX X E (binaryOp .Pow) powD := opx fun W H μ dx dy vx vy Q ok r1 r2 p => by
 unfold powD at p
 split at p
 ·split at p
  ·rename_i hn
   cases r1; cases r2
   exact ⟨_, op_pow, _, _, rfl, rfl, hn, post_pure ok p (.int _)⟩
  ·exact p.elim
 ·exact p.elim
end

/-! ### < <= > >= -/
def strLt (x y : Str) : Bool := decide (x.cps.toList < y.cps.toList)
def ltD : D → D → Mu → R D
 | .int i, .int j, μ => .ok (.bl (decide (i < j))) μ
 | .str x, .str y, μ => .ok (.bl (strLt x y)) μ
 | _, _, _ => .bad
def leD : D → D → Mu → R D
 | .int i, .int j, μ => .ok (.bl (decide (i ≤ j))) μ
 | .str x, .str y, μ => .ok (.bl (!strLt y x)) μ
 | _, _, _ => .bad
def gtD : D → D → Mu → R D
 | .int i, .int j, μ => .ok (.bl (decide (j < i))) μ
 | _, _, _ => .bad
def geD : D → D → Mu → R D
 | .int i, .int j, μ => .ok (.bl (decide (j ≤ i))) μ
 | _, _, _ => .bad
section
variable {X : Cx} {E : WX}
theorem opx_lt : OpX X E (compareOp .Lt) ltD := opx fun W H μ dx dy vx vy Q ok r1 r2 p => by
 unfold ltD at p
 split at p
 ·cases r1; cases r2
  exact ⟨_, op_lt, _, _, rfl, rfl, post_pure ok p (.bl _)⟩
 ·cases r1; cases r2
  exact ⟨_, op_lt_str, _, _, rfl, rfl, post_pure ok p (.bl _)⟩
 ·exact p.elim
theorem opx_le : OpX X E (compareOp .LtE) leD := opx fun W H μ dx dy vx vy Q ok r1 r2 p => by
 unfold leD at p
 split at p
 ·cases r1; cases r2
  exact ⟨_, op_le, _, _, rfl, rfl, post_pure ok p (.bl _)⟩
 ·cases r1; cases r2
  exact ⟨_, op_le_str, _, _, rfl, rfl, post_pure ok p (.bl _)⟩
 ·exact p.elim
theorem opx_gt : OpX X E (compareOp .Gt) gtD := opx fun W H μ dx dy vx vy Q ok r1 r2 p => by
 unfold gtD at p
 split at p
 ·cases r1; cases r2
  exact ⟨_, op_gt, _, _, rfl, rfl, post_pure ok p (.bl _)⟩
 ·exact p.elim
theorem opx_ge : OpX X E (compareOp .GtE) geD := opx fun W H μ dx dy vx vy Q ok r1 r2 p => by
 unfold geD at p
 split at p
 ·cases r1; cases r2
  exact ⟨_, op_ge, _, _, rfl, rfl, post_pure ok p (.bl _)⟩
 ·exact p.elim
end

/-! ### is None -/
def isNoneD : D → Option Bool
 | .non => some true
 | .cst _ => none
 | _ => some false
def isD : D → D → Mu → R D
 | x, .non, μ => match isNoneD x with
  | some b => .ok (.bl b) μ
  | none => .bad
 | _, _, _ => .bad
def isntD : D → D → Mu → R D
 | x, .non, μ => match isNoneD x with
  | some b => .ok (.bl (!b)) μ
  | none => .bad
 | _, _, _ => .bad
theorem isNone_rep {K : PySem.W.Frag} {W : Wd} {v : V} {d : D} {b : Bool} (r : Rep K W v d) (h : isNoneD d = some b) : decide (v = .non) = b := by
 cases r <;> simp [isNoneD] at h <;> subst h <;> simp
section
variable {X : Cx} {E : WX}
theorem opx_is : OpX X E (compareOp .Is) isD := opx fun W H μ dx dy vx vy Q ok r1 r2 p => by
 unfold isD at p
 split at p
 ·split at p
  ·rename_i b hb
   cases r2
   refine ⟨_, op_isN, rfl, ?_⟩
   rw [isNone_rep r1 hb]
   exact post_pure ok p (.bl _)
  ·exact p.elim
 ·exact p.elim
theorem opx_isnt : OpX X E (compareOp .IsNot) isntD := opx fun W H μ dx dy vx vy Q ok r1 r2 p => by
 unfold isntD at p
 split at p
 ·split at p
  ·rename_i b hb
   cases r2
   refine ⟨_, op_notN, rfl, ?_⟩
   rw [isNone_rep r1 hb]
   exact post_pure ok p (.bl _)
  ·exact p.elim
 ·exact p.elim
end

end DL
/-! DL5: == and in over data. -/
namespace DL
open PySem L2

inductive Kd where
 | flat (v : V) | tup (xs : List D) | lst (xs : List D) | none
def D.kd : D → Kd
 | .non => .flat .non
 | .bl b => .flat (.bl b)
 | .int i => .flat (.int i)
 | .str x => .flat (.str x)
 | .tup xs => .tup xs
 | .lst xs => .lst xs
 | _ => .none
def eqL (e : D → D → Option Bool) : List D → List D → Option Bool
 | [], [] => some true
 | [], _ :: _ => some false
 | _ :: _, [] => some false
 | x :: xs, y :: ys => match e x y, eqL e xs ys with
  | some a, some b => some (a && b)
  | _, _ => none
/-- == of data of less than that depth -/
def eqD : Nat → D → D → Option Bool
 | 0, _, _ => none
 | n + 1, x, y => match x.kd, y.kd with
  | .flat u, .flat v => some (eqV u v)
  | .tup xs, .tup ys => eqL (eqD n) xs ys
  | .lst xs, .lst ys => eqL (eqD n) xs ys
  | .none, _ => none
  | _, .none => none
  | _, _ => some false
def atF (e : D → D → Option Bool) (xs ys : List D) (j : Nat) : Bool := match xs[j]?, ys[j]? with
 | some x, some y => (e x y).getD false
 | _, _ => false
theorem eqL_at {e : D → D → Option Bool} : ∀ {xs ys : List D} {b : Bool}, eqL e xs ys = some b → ∀ (j : Nat) x y, xs[j]? = some x → ys[j]? = some y → e x y = some (atF e xs ys j)
 | [], _, _, _, _, _, _, h, _ => by simp at h
 | _ :: _, [], _, _, _, _, _, _, h => by simp at h
 | x :: xs, y :: ys, b, h, j, x', y', h1, h2 => by
  unfold eqL at h
  cases e1 : e x y with
  | none => rw [e1] at h; cases h
  | some a =>
   cases e2 : eqL e xs ys with
   | none => rw [e1, e2] at h; cases h
   | some c =>
    cases j with
    | zero =>
     simp at h1 h2
     subst h1 h2
     simp [atF, e1]
    | succ j =>
     have := eqL_at e2 j x' y' (by simpa using h1) (by simpa using h2)
     rw [this]
     simp [atF]
theorem all_shift (p : Nat → Bool) (n : Nat) : (List.range (n + 1)).all p = (p 0 && (List.range n).all fun j => p (j + 1)) := by
 rw [List.range_succ_eq_map, List.all_cons, List.all_map]
 rfl
theorem eqL_val {e : D → D → Option Bool} : ∀ {xs ys : List D} {b : Bool}, eqL e xs ys = some b → b = ((List.range (min xs.length ys.length)).all (atF e xs ys) && xs.length == ys.length)
 | [], [], b, h => by
  simp [eqL] at h
  subst h
  simp
 | [], y :: ys, b, h => by
  simp [eqL] at h
  subst h
  simp
 | x :: xs, [], b, h => by
  simp [eqL] at h
  subst h
  simp
 | x :: xs, y :: ys, b, h => by
  unfold eqL at h
  cases e1 : e x y with
  | none => rw [e1] at h; cases h
  | some a =>
   cases e2 : eqL e xs ys with
   | none => rw [e1, e2] at h; cases h
   | some c =>
    rw [e1, e2] at h
    cases h
    have ih := eqL_val e2
    have hm : min (x :: xs).length (y :: ys).length = min xs.length ys.length + 1 := by simp [Nat.succ_min_succ]
    rw [hm, all_shift]
    have h0 : atF e (x :: xs) (y :: ys) 0 = a := by simp [atF, e1]
    have hs : (fun j => atF e (x :: xs) (y :: ys) (j + 1)) = atF e xs ys := by
     funext j
     simp [atF]
    rw [h0, hs, Bool.and_assoc, ih]
    simp
section
variable {X : Cx} {pins : List (Addr × Obj)} {σ : St} {H : Hp} {s : Shared} {W : Wd} {μ : Mu}
theorem eqV_refl {v : V} (h : flatV v = true) : eqV v v = true := by
 cases v <;> simp [eqV, flatV] at h ⊢
theorem kd_flat {K : PySem.W.Frag} {v u : V} {d : D} (r : Rep K W v d) (h : d.kd = .flat u) : v = u ∧ flatV v = true := by
 cases r <;> simp [D.kd] at h <;> subst h <;> exact ⟨rfl, rfl⟩
theorem kd_tup {K : PySem.W.Frag} {v : V} {d : D} {xs : List D} (r : Rep K W v d) (h : d.kd = .tup xs) : ∃ a vs, v = .ref a ∧ SqT K W.S a vs ∧ Reps K W vs xs := by
 cases r <;> simp [D.kd] at h
 subst h
 exact ⟨_, _, rfl, by assumption, by assumption⟩
theorem kd_lst {K : PySem.W.Frag} {v : V} {d : D} {xs : List D} (r : Rep K W v d) (h : d.kd = .lst xs) : ∃ a vs, v = .ref a ∧ Lq K W.S a vs ∧ Reps K W vs xs := by
 cases r <;> simp [D.kd] at h
 subst h
 exact ⟨_, _, rfl, by assumption, by assumption⟩
theorem eqL_same {K : PySem.W.Frag} {e : D → D → Option Bool} (h : ∀ v x y c, Rep K W v x → Rep K W v y → e x y = some c → c = true) : ∀ {vs : List V} {xs ys : List D} {b : Bool}, Reps K W vs xs → Reps K W vs ys → eqL e xs ys = some b → b = true
 | _, _, _, _, .nil, .nil, q => by
  simp [eqL] at q
  exact q
 | _, _, _, _, .cons r1 t1, .cons r2 t2, q => by
  rename_i v vs d ds d' ds'
  unfold eqL at q
  cases e1 : e d d' with
  | none => rw [e1] at q; cases q
  | some a =>
   cases e2 : eqL e ds ds' with
   | none => rw [e1, e2] at q; cases q
   | some c =>
    rw [e1, e2] at q
    cases q
    rw [h v d d' a r1 r2 e1, eqL_same h t1 t2 e2]
    rfl
theorem eqD_same (I : Inv X pins σ H s) (ok : Ok X.K W H μ) : ∀ (n : Nat) (v : V) (d e : D) (b : Bool), Rep X.K W v d → Rep X.K W v e → eqD n d e = some b → b = true
 | 0, _, _, _, _, _, _, h => by simp [eqD] at h
 | n + 1, v, d, e, b, r1, r2, h => by
  unfold eqD at h
  cases k1 : d.kd with
  | none => rw [k1] at h; cases h
  | flat u1 =>
   obtain ⟨rfl, f1⟩ := kd_flat r1 k1
   cases k2 : e.kd with
   | none => rw [k1, k2] at h; cases h
   | flat u2 =>
    obtain ⟨rfl, _⟩ := kd_flat r2 k2
    rw [k1, k2] at h
    cases h
    exact eqV_refl f1
   | tup ys =>
    obtain ⟨a, vs, rfl, _⟩ := kd_tup r2 k2
    simp [flatV] at f1
   | lst ys =>
    obtain ⟨a, vs, rfl, _⟩ := kd_lst r2 k2
    simp [flatV] at f1
  | tup xs =>
   obtain ⟨a, vs, rfl, h1, q1⟩ := kd_tup r1 k1
   cases k2 : e.kd with
   | none => rw [k1, k2] at h; cases h
   | flat u2 =>
    obtain ⟨rfl, f⟩ := kd_flat r2 k2
    simp [flatV] at f
   | tup ys =>
    obtain ⟨a', us, e', h2, q2⟩ := kd_tup r2 k2
    cases e'
    have ev := I.tuple_inj (same_t ok.sub h1) (same_t ok.sub h2)
    subst ev
    rw [k1, k2] at h
    exact eqL_same (fun v x y c a b z => eqD_same I ok n v x y c a b z) q1 q2 h
   | lst ys =>
    obtain ⟨a', us, e', h2, q2⟩ := kd_lst r2 k2
    cases e'
    obtain ⟨its, _, ⟨o, e1, c1, _⟩, _⟩ := I.tuple (same_t ok.sub h1)
    obtain ⟨its', _, ⟨o', n', e2, c2, _⟩, _⟩ := I.list (same_lq ok.sub h2).sq
    rw [e1] at e2
    cases e2
    rw [c1] at c2
    exact absurd c2 (by decide)
  | lst xs =>
   obtain ⟨a, vs, rfl, h1, q1⟩ := kd_lst r1 k1
   cases k2 : e.kd with
   | none => rw [k1, k2] at h; cases h
   | flat u2 =>
    obtain ⟨rfl, f⟩ := kd_flat r2 k2
    simp [flatV] at f
   | lst ys =>
    obtain ⟨a', us, e', h2, q2⟩ := kd_lst r2 k2
    cases e'
    have ev := I.list_inj (same_lq ok.sub h1).sq (same_lq ok.sub h2).sq
    subst ev
    rw [k1, k2] at h
    exact eqL_same (fun v x y c a b z => eqD_same I ok n v x y c a b z) q1 q2 h
   | tup ys =>
    obtain ⟨a', us, e', h2, q2⟩ := kd_tup r2 k2
    cases e'
    obtain ⟨its, _, ⟨o, e1, c1, _⟩, _⟩ := I.tuple (same_t ok.sub h2)
    obtain ⟨its', _, ⟨o', n', e2, c2, _⟩, _⟩ := I.list (same_lq ok.sub h1).sq
    rw [e1] at e2
    cases e2
    rw [c1] at c2
    exact absurd c2 (by decide)
open PySem.SeqAt in
theorem rc_flat {A : Around} {u v : V} {p q : Value} (r1 : RelV u p) (r2 : RelV v q) (f1 : flatV u = true) (f2 : flatV v = true) : RcAt A s p q (eqV u v) := by
 cases u <;> simp [flatV] at f1 <;> cases v <;> simp [flatV] at f2
 case non.non => cases r1; cases r2; exact RcAt.none_none
 case non.bl => cases r1; cases r2; exact RcAt.none_bool _
 case non.int => cases r1; obtain ⟨t, rfl⟩ := r2; exact RcAt.none_int _ _
 case non.str => cases r1; obtain ⟨t, rfl⟩ := r2; exact RcAt.none_str _ _
 case bl.non => cases r1; cases r2; exact RcAt.bool_none _
 case bl.bl => cases r1; cases r2; exact RcAt.bool_bool _ _
 case bl.int => cases r1; obtain ⟨t, rfl⟩ := r2; exact RcAt.bool_int _ _ _
 case bl.str => cases r1; obtain ⟨t, rfl⟩ := r2; exact RcAt.bool_str _ _ _
 case int.non => obtain ⟨t, rfl⟩ := r1; cases r2; exact RcAt.int_none _ _
 case int.bl => obtain ⟨t, rfl⟩ := r1; cases r2; exact RcAt.int_bool _ _ _
 case int.int => obtain ⟨t, rfl⟩ := r1; obtain ⟨t', rfl⟩ := r2; exact RcAt.int_int _ _ _ _
 case int.str => obtain ⟨t, rfl⟩ := r1; obtain ⟨t', rfl⟩ := r2; exact RcAt.int_str _ _ _ _
 case str.non => obtain ⟨t, rfl⟩ := r1; cases r2; exact RcAt.str_none _ _
 case str.bl => obtain ⟨t, rfl⟩ := r1; cases r2; exact RcAt.str_bool _ _ _
 case str.int => obtain ⟨t, rfl⟩ := r1; obtain ⟨t', rfl⟩ := r2; exact RcAt.str_int _ _ _ _
 case str.str => obtain ⟨t, rfl⟩ := r1; obtain ⟨t', rfl⟩ := r2; exact RcAt.str_str _ _ _ _
open PySem.SeqAt in
theorem flat_list {A : Around} {u : V} {p : Value} {l : Addr} {its : Array Value} (r1 : RelV u p) (f1 : flatV u = true) (hl : s.heap.IsList l its) (hu : A.units < cLine) : RcAt A s p (.ref l) false ∧ EqAt A s p (.ref l) false ∧ RcAt A s (.ref l) p false ∧ EqAt A s (.ref l) p false := by
 cases u <;> simp [flatV] at f1
 case non => cases r1; exact ⟨.none_list hl hu, .none_list hl hu, .list_none hl hu, .list_none hl hu⟩
 case bl => cases r1; exact ⟨.bool_list _ hl hu, .bool_list _ hl hu, .list_bool _ hl hu, .list_bool _ hl hu⟩
 case int => obtain ⟨t, rfl⟩ := r1; exact ⟨.int_list _ _ hl hu, .int_list _ _ hl hu, .list_int _ _ hl hu, .list_int _ _ hl hu⟩
 case str => obtain ⟨t, rfl⟩ := r1; exact ⟨.str_list _ _ hl hu, .str_list _ _ hl hu, .list_str _ _ hl hu, .list_str _ _ hl hu⟩
open PySem.SeqAt in
theorem flat_tuple {A : Around} {u : V} {p : Value} {l : Addr} {its : Array Value} (r1 : RelV u p) (f1 : flatV u = true) (hl : s.heap.IsTuple l its) (hu : A.units < cLine) : RcAt A s p (.ref l) false ∧ EqAt A s p (.ref l) false ∧ RcAt A s (.ref l) p false ∧ EqAt A s (.ref l) p false := by
 cases u <;> simp [flatV] at f1
 case non => cases r1; exact ⟨.none_tuple hl hu, .none_tuple hl hu, .tuple_none hl hu, .tuple_none hl hu⟩
 case bl => cases r1; exact ⟨.bool_tuple _ hl hu, .bool_tuple _ hl hu, .tuple_bool _ hl hu, .tuple_bool _ hl hu⟩
 case int => obtain ⟨t, rfl⟩ := r1; exact ⟨.int_tuple _ _ hl hu, .int_tuple _ _ hl hu, .tuple_int _ _ hl hu, .tuple_int _ _ hl hu⟩
 case str => obtain ⟨t, rfl⟩ := r1; exact ⟨.str_tuple _ _ hl hu, .str_tuple _ _ hl hu, .tuple_str _ _ hl hu, .tuple_str _ _ hl hu⟩
open PySem.SeqAt in
theorem eqD_at (I : Inv X pins σ H s) (ok : Ok X.K W H μ) : ∀ (n : Nat) (A : Around) (d e : D) (b : Bool) (u v : V) (p q : Value), A.units + n < cLine → Rep X.K W u d → Rep X.K W v e → RelV u p → RelV v q → eqD n d e = some b → RcAt A s p q b ∧ EqAt A s p q b
 | 0, _, _, _, _, _, _, _, _, _, _, _, _, _, h => by simp [eqD] at h
 | n + 1, A, d, e, b, u, v, p, q, hu, r1, r2, w1, w2, h => by
  have hu0 : A.units < cLine := by omega
  unfold eqD at h
  cases k1 : d.kd with
  | none => rw [k1] at h; cases h
  | flat u1 =>
   obtain ⟨rfl, f1⟩ := kd_flat r1 k1
   cases k2 : e.kd with
   | none => rw [k1, k2] at h; cases h
   | flat u2 =>
    obtain ⟨rfl, f2⟩ := kd_flat r2 k2
    rw [k1, k2] at h
    cases h
    exact ⟨rc_flat w1 w2 f1 f2, eqAt_V w1 w2 f1 f2⟩
   | tup ys =>
    obtain ⟨a, vs, rfl, h2, _⟩ := kd_tup r2 k2
    cases w2
    obtain ⟨its, _, ht, _⟩ := I.tuple (same_t ok.sub h2)
    rw [k1, k2] at h
    cases h
    have z := flat_tuple (s := s) (A := A) w1 f1 (show s.heap.IsTuple a its.toArray from ht) hu0
    exact ⟨z.1, z.2.1⟩
   | lst ys =>
    obtain ⟨a, vs, rfl, h2, _⟩ := kd_lst r2 k2
    cases w2
    obtain ⟨its, _, ht, _⟩ := I.list (same_lq ok.sub h2).sq
    rw [k1, k2] at h
    cases h
    have z := flat_list (s := s) (A := A) w1 f1 ht.isList hu0
    exact ⟨z.1, z.2.1⟩
  | tup xs =>
   obtain ⟨a, vs, rfl, h1, q1⟩ := kd_tup r1 k1
   cases w1
   obtain ⟨its, v1, ht, _⟩ := I.tuple (same_t ok.sub h1)
   cases k2 : e.kd with
   | none => rw [k1, k2] at h; cases h
   | flat u2 =>
    obtain ⟨rfl, f2⟩ := kd_flat r2 k2
    rw [k1, k2] at h
    cases h
    have z := flat_tuple (s := s) (A := A) w2 f2 (show s.heap.IsTuple a its.toArray from ht) hu0
    exact ⟨z.2.2.1, z.2.2.2⟩
   | lst ys =>
    obtain ⟨a', us, rfl, h2, q2⟩ := kd_lst r2 k2
    cases w2
    obtain ⟨its', _, ht', _⟩ := I.list (same_lq ok.sub h2).sq
    rw [k1, k2] at h
    cases h
    exact ⟨.tuple_list (show s.heap.IsTuple a its.toArray from ht) ht'.isList hu0, .tuple_list (show s.heap.IsTuple a its.toArray from ht) ht'.isList hu0⟩
   | tup ys =>
    obtain ⟨a', us, rfl, h2, q2⟩ := kd_tup r2 k2
    cases w2
    obtain ⟨its', v2, ht', _⟩ := I.tuple (same_t ok.sub h2)
    have hs := h
    rw [k1, k2] at h
    have l1 : its.toArray.size = xs.length := by rw [List.size_toArray, ← v1.length, q1.length]
    have l2 : its'.toArray.size = ys.length := by rw [List.size_toArray, ← v2.length, q2.length]
    have rc : RcAt A s (.ref a) (.ref a') b := by
     have z := RcAt.tuples (e := atF (eqD n) xs ys) (show s.heap.IsTuple a its.toArray from ht) (show s.heap.IsTuple a' its'.toArray from ht') hu0 (fun j h3 h4 => by
      obtain ⟨xd, ex⟩ : ∃ xd, xs[j]? = some xd := ⟨_, List.getElem?_eq_getElem (by rw [← l1]; exact h3)⟩
      obtain ⟨yd, ey⟩ : ∃ yd, ys[j]? = some yd := ⟨_, List.getElem?_eq_getElem (by rw [← l2]; exact h4)⟩
      obtain ⟨xv, e3, r3⟩ := q1.get ex
      obtain ⟨yv, e4, r4⟩ := q2.get ey
      obtain ⟨xu, e5, w5⟩ := v1.get e3
      obtain ⟨yu, e6, w6⟩ := v2.get e4
      have g1 : its.toArray[j] = xu := by
       have := List.getElem?_eq_some_iff.mp e5
       simpa using this.2
      have g2 : its'.toArray[j] = yu := by
       have := List.getElem?_eq_some_iff.mp e6
       simpa using this.2
      rw [g1, g2]
      exact (eqD_at I ok n A.in1 xd yd _ xv yv xu yu (by show A.units + 1 + n < cLine; omega) r3 r4 w5 w6 (eqL_at h j xd yd ex ey)).2)
     rw [l1, l2, ← eqL_val h] at z
     exact z
    refine ⟨rc, ?_⟩
    by_cases hne : a = a'
    ·subst hne
     have hb : b = true := eqD_same I ok (n + 1) (.ref a) d e b r1 r2 (by unfold eqD; exact hs)
     rw [hb]
     exact .same _
    ·exact .of_refs hne rc
  | lst xs =>
   obtain ⟨a, vs, rfl, h1, q1⟩ := kd_lst r1 k1
   cases w1
   obtain ⟨its, v1, ht, _⟩ := I.list (same_lq ok.sub h1).sq
   cases k2 : e.kd with
   | none => rw [k1, k2] at h; cases h
   | flat u2 =>
    obtain ⟨rfl, f2⟩ := kd_flat r2 k2
    rw [k1, k2] at h
    cases h
    have z := flat_list (s := s) (A := A) w2 f2 ht.isList hu0
    exact ⟨z.2.2.1, z.2.2.2⟩
   | tup ys =>
    obtain ⟨a', us, rfl, h2, q2⟩ := kd_tup r2 k2
    cases w2
    obtain ⟨its', _, ht', _⟩ := I.tuple (same_t ok.sub h2)
    rw [k1, k2] at h
    cases h
    exact ⟨.list_tuple ht.isList (show s.heap.IsTuple a' its'.toArray from ht') hu0, .list_tuple ht.isList (show s.heap.IsTuple a' its'.toArray from ht') hu0⟩
   | lst ys =>
    obtain ⟨a', us, rfl, h2, q2⟩ := kd_lst r2 k2
    cases w2
    obtain ⟨its', v2, ht', _⟩ := I.list (same_lq ok.sub h2).sq
    have hs := h
    rw [k1, k2] at h
    have l1 : its.toArray.size = xs.length := by rw [List.size_toArray, ← v1.length, q1.length]
    have l2 : its'.toArray.size = ys.length := by rw [List.size_toArray, ← v2.length, q2.length]
    have rc : RcAt A s (.ref a) (.ref a') b := by
     by_cases hl : xs.length = ys.length
     ·have z := RcAt.lists (e := atF (eqD n) xs ys) ht.isList ht'.isList (by rw [l1, l2]; exact hl) hu0 (fun j h3 h4 => by
       obtain ⟨xd, ex⟩ : ∃ xd, xs[j]? = some xd := ⟨_, List.getElem?_eq_getElem (by rw [← l1]; exact h3)⟩
       obtain ⟨yd, ey⟩ : ∃ yd, ys[j]? = some yd := ⟨_, List.getElem?_eq_getElem (by rw [← l2]; exact h4)⟩
       obtain ⟨xv, e3, r3⟩ := q1.get ex
       obtain ⟨yv, e4, r4⟩ := q2.get ey
       obtain ⟨xu, e5, w5⟩ := v1.get e3
       obtain ⟨yu, e6, w6⟩ := v2.get e4
       have g1 : its.toArray[j] = xu := by
        have := List.getElem?_eq_some_iff.mp e5
        simpa using this.2
       have g2 : its'.toArray[j] = yu := by
        have := List.getElem?_eq_some_iff.mp e6
        simpa using this.2
       rw [g1, g2]
       exact (eqD_at I ok n A.in1 xd yd _ xv yv xu yu (by show A.units + 1 + n < cLine; omega) r3 r4 w5 w6 (eqL_at h j xd yd ex ey)).2)
      have hv := eqL_val h
      rw [hl, Nat.min_self, beq_self_eq_true, Bool.and_true] at hv
      rw [l1, hl, ← hv] at z
      exact z
     ·have hv := eqL_val h
      rw [show (xs.length == ys.length) = false from beq_eq_false_iff_ne.mpr hl, Bool.and_false] at hv
      rw [hv]
      exact .lists_lengths ht.isList ht'.isList (by rw [l1, l2]; simpa using hl) hu0
    refine ⟨rc, ?_⟩
    by_cases hne : a = a'
    ·subst hne
     have hb : b = true := eqD_same I ok (n + 1) (.ref a) d e b r1 r2 (by unfold eqD; exact hs)
     rw [hb]
     exact .same _
    ·exact .of_refs hne rc
end

def dEq : D → D → Mu → R D := fun x y μ => R.of ((eqD 20 x y).map .bl) μ
/-- != of flat things -/
def dNe : D → D → Mu → R D := fun x y μ => match x.kd, y.kd with
 | .flat u, .flat v => if scal u v = true then .ok (.bl (!decide (u = v))) μ else .bad
 | _, _ => .bad
section
variable {X : Cx} {E : WX}
theorem opx_eq (hu : X.A.units + 64 < cLine) : OpX X E (compareOp .Eq) dEq := by
 intro pins s σ H x y v u Q I rx ry q
 obtain ⟨E', W, μ, dx, dy, ok, r1, r2, p⟩ := q
 unfold dEq at p
 revert p
 cases h : eqD 20 dx dy with
 | none => exact fun p => p.elim
 | some b =>
  intro p
  have z := (eqD_at I ok 20 X.A dx dy b x y v u (by omega) r1 r2 rx ry h).1
  exact z X.prog X.w X.xe _ ⟨.bl b, H, I, rfl, post_pure ok p (.bl b)⟩
theorem opx_ne : OpX X E (compareOp .NotEq) dNe := opx fun W H μ dx dy vx vy Q ok r1 r2 p => by
 unfold dNe at p
 split at p
 ·rename_i u v h1 h2
  obtain ⟨rfl, _⟩ := kd_flat r1 h1
  obtain ⟨rfl, _⟩ := kd_flat r2 h2
  split at p
  ·rename_i hs
   exact ⟨_, op_ne, hs, post_pure ok p (.bl _)⟩
  ·exact p.elim
 ·exact p.elim
end
end DL
/-! DL6: in, len, items, slices, built-ins, methods. -/
namespace DL
open PySem L2

/-- the items of a sequence, a cell's too -/
def seqD (μ : Mu) : D → Option (List D)
 | .lst xs => some xs
 | .tup xs => some xs
 | .hdl l => match μ[l]? with
  | some (.lst xs) => some xs
  | _ => none
 | _ => none
theorem seq_rep {K : PySem.W.Frag} {W : Wd} {H : Hp} {μ : Mu} {v : V} {d : D} {xs : List D} (ok : Ok K W H μ) (r : Rep K W v d) (h : seqD μ d = some xs) : ∃ a vs, v = .ref a ∧ Reps K W vs xs ∧ (SqL K H a vs ∨ SqT K H a vs) := by
 cases r with
 | lst z h1 r1 =>
  simp [seqD] at h
  subst h
  exact ⟨_, _, rfl, r1, .inl (same_lq ok.sub h1).sq⟩
 | tup z h1 r1 =>
  simp [seqD] at h
  subst h
  exact ⟨_, _, rfl, r1, .inr (same_t ok.sub h1)⟩
 | @hdl a l ha =>
  unfold seqD at h
  dsimp only at h
  cases hm : μ[l]? with
  | none => rw [hm] at h; cases h
  | some m =>
   rw [hm] at h
   cases m with
   | lst ys =>
    cases h
    obtain ⟨o, ho, vs, rfl, rs⟩ := ok.cell l a _ ha hm
    exact ⟨a, vs, rfl, rs, .inl (.inl (.inl ho))⟩
   | _ => cases h
 | _ => simp [seqD] at h

/-! ### in -/
def inL (e : D → Option Bool) : List D → Option Bool
 | [] => some false
 | y :: ys => match e y, inL e ys with
  | some a, some b => some (a || b)
  | _, _ => none
def inD (μ : Mu) (x y : D) : Option Bool := match y with
 | .str z => match x with
  | .str w => match w.cps.toList with
   | [c] => some (decide (c ∈ z.cps.toList))
   | _ => some (!(Builtin.Str.occurrences z w 0 z.length 1).isEmpty)
  | _ => none
 | y => match seqD μ y with
  | some ys => inL (fun d => eqD 20 d x) ys
  | none => none
def dIn : D → D → Mu → R D := fun x y μ => R.of ((inD μ x y).map .bl) μ
def dNotIn : D → D → Mu → R D := fun x y μ => R.of ((inD μ x y).map fun b => .bl (!b)) μ
theorem inL_def {e : D → Option Bool} : ∀ {ys : List D} {b : Bool}, inL e ys = some b → ∀ y ∈ ys, ∃ c, e y = some c
 | [], _, _, _, h => by cases h
 | y :: ys, b, h, z, hz => by
  unfold inL at h
  cases e1 : e y with
  | none => rw [e1] at h; cases h
  | some a =>
   cases e2 : inL e ys with
   | none => rw [e1, e2] at h; cases h
   | some c =>
    rcases List.mem_cons.mp hz with rfl | hz
    ·exact ⟨a, e1⟩
    ·exact inL_def e2 z hz
theorem inL_iff {e : D → Option Bool} : ∀ {ys : List D} {b : Bool}, inL e ys = some b → (b = true ↔ ∃ y ∈ ys, e y = some true)
 | [], b, h => by
  simp [inL] at h
  subst h
  simp
 | y :: ys, b, h => by
  unfold inL at h
  cases e1 : e y with
  | none => rw [e1] at h; cases h
  | some a =>
   cases e2 : inL e ys with
   | none => rw [e1, e2] at h; cases h
   | some c =>
    rw [e1, e2] at h
    cases h
    have ih := inL_iff e2
    simp [e1, ih]
def backV : Value → Option V
 | .none => some .non
 | .bool b => some (.bl b)
 | .int i _ => some (.int i)
 | .str x _ => some (.str x)
 | .bytes b _ => some (.byt b)
 | .float b _ => some (.flt b)
 | .ref a => some (.ref a)
 | .type n => some (.ty n)
 | _ => none
theorem backV_of {v : V} {p : Value} (h : RelV v p) : backV p = some v := by
 cases v with
 | non => cases h; rfl
 | bl b => cases h; rfl
 | int i => obtain ⟨t, rfl⟩ := h; rfl
 | str i => obtain ⟨t, rfl⟩ := h; rfl
 | byt i => obtain ⟨t, rfl⟩ := h; rfl
 | flt i => obtain ⟨t, rfl⟩ := h; rfl
 | ref a => cases h; rfl
 | ty n => cases h; rfl
theorem relV_inj {u v : V} {p : Value} (h : RelV u p) (h' : RelV v p) : u = v := by
 have e := backV_of h
 rw [backV_of h'] at e
 exact (Option.some.inj e).symm
theorem eqL_det {K : PySem.W.Frag} {W : Wd} {e : D → D → Option Bool} (h : ∀ v x x' y c c', Rep K W v x → Rep K W v x' → e x y = some c → e x' y = some c' → c = c') : ∀ {vs : List V} {xs xs' ys : List D} {b b' : Bool}, Reps K W vs xs → Reps K W vs xs' → eqL e xs ys = some b → eqL e xs' ys = some b' → b = b'
 | _, _, _, [], b, b', .nil, .nil, q, q' => by
  simp [eqL] at q q'
  rw [q, q']
 | _, _, _, _ :: _, b, b', .nil, .nil, q, q' => by
  simp [eqL] at q q'
  rw [q, q']
 | _, _, _, [], b, b', .cons _ _, .cons _ _, q, q' => by
  simp [eqL] at q q'
  rw [q, q']
 | _, _, _, y :: ys, b, b', .cons (d := d) (ds := ds) r1 t1, .cons (d := d') (ds := ds') r2 t2, q, q' => by
  unfold eqL at q q'
  cases e1 : e d y with
  | none => rw [e1] at q; cases q
  | some a =>
   cases e2 : eqL e ds ys with
   | none => rw [e1, e2] at q; cases q
   | some c =>
    cases e3 : e d' y with
    | none => rw [e3] at q'; cases q'
    | some a' =>
     cases e4 : eqL e ds' ys with
     | none => rw [e3, e4] at q'; cases q'
     | some c' =>
      rw [e1, e2] at q
      rw [e3, e4] at q'
      cases q
      cases q'
      rw [h _ d d' y a a' r1 r2 e1 e3, eqL_det h t1 t2 e2 e4]
section
variable {X : Cx} {pins : List (Addr × Obj)} {σ : St} {H : Hp} {s : Shared} {W : Wd} {μ : Mu} {E : WX}
theorem eqD_det (I : Inv X pins σ H s) (ok : Ok X.K W H μ) : ∀ (n : Nat) (v : V) (d d' e : D) (b b' : Bool), Rep X.K W v d → Rep X.K W v d' → eqD n d e = some b → eqD n d' e = some b' → b = b'
 | 0, _, _, _, _, _, _, _, _, h, _ => by simp [eqD] at h
 | n + 1, v, d, d', e, b, b', r1, r2, h, h' => by
  have again : ∀ v x x' y c c', Rep X.K W v x → Rep X.K W v x' → eqD n x y = some c → eqD n x' y = some c' → c = c' := fun v x x' y c c' a1 a2 a3 a4 => eqD_det I ok n v x x' y c c' a1 a2 a3 a4
  unfold eqD at h h'
  cases k1 : d.kd with
  | none => rw [k1] at h; cases h
  | flat u1 =>
   obtain ⟨rfl, f1⟩ := kd_flat r1 k1
   have k2 : d'.kd = .flat v := by
    cases k2 : d'.kd with
    | none => rw [k2] at h'; cases h'
    | flat u2 => obtain ⟨rfl, _⟩ := kd_flat r2 k2; rfl
    | tup ys => obtain ⟨a, vs, rfl, _⟩ := kd_tup r2 k2; simp [flatV] at f1
    | lst ys => obtain ⟨a, vs, rfl, _⟩ := kd_lst r2 k2; simp [flatV] at f1
   rw [k1] at h
   rw [k2] at h'
   rw [h] at h'
   exact Option.some.inj h'
  | tup xs =>
   obtain ⟨a, vs, rfl, h1, q1⟩ := kd_tup r1 k1
   cases k2 : d'.kd with
   | none => rw [k2] at h'; cases h'
   | flat u2 => obtain ⟨rfl, f⟩ := kd_flat r2 k2; simp [flatV] at f
   | lst ys =>
    obtain ⟨a', us, e', h2, q2⟩ := kd_lst r2 k2
    cases e'
    obtain ⟨its, _, ⟨o, e1, c1, _⟩, _⟩ := I.tuple (same_t ok.sub h1)
    obtain ⟨its', _, ⟨o', n', e2, c2, _⟩, _⟩ := I.list (same_lq ok.sub h2).sq
    rw [e1] at e2
    cases e2
    rw [c1] at c2
    exact absurd c2 (by decide)
   | tup ys =>
    obtain ⟨a', us, e', h2, q2⟩ := kd_tup r2 k2
    cases e'
    have ev := I.tuple_inj (same_t ok.sub h1) (same_t ok.sub h2)
    subst ev
    rw [k1] at h
    rw [k2] at h'
    cases k3 : e.kd with
    | none => rw [k3] at h; cases h
    | flat u3 => rw [k3] at h h'; rw [← Option.some.inj h, ← Option.some.inj h']
    | lst zs => rw [k3] at h h'; rw [← Option.some.inj h, ← Option.some.inj h']
    | tup zs => rw [k3] at h h'; exact eqL_det again q1 q2 h h'
  | lst xs =>
   obtain ⟨a, vs, rfl, h1, q1⟩ := kd_lst r1 k1
   cases k2 : d'.kd with
   | none => rw [k2] at h'; cases h'
   | flat u2 => obtain ⟨rfl, f⟩ := kd_flat r2 k2; simp [flatV] at f
   | tup ys =>
    obtain ⟨a', us, e', h2, q2⟩ := kd_tup r2 k2
    cases e'
    obtain ⟨its, _, ⟨o, e1, c1, _⟩, _⟩ := I.tuple (same_t ok.sub h2)
    obtain ⟨its', _, ⟨o', n', e2, c2, _⟩, _⟩ := I.list (same_lq ok.sub h1).sq
    rw [e1] at e2
    cases e2
    rw [c1] at c2
    exact absurd c2 (by decide)
   | lst ys =>
    obtain ⟨a', us, e', h2, q2⟩ := kd_lst r2 k2
    cases e'
    have ev := I.list_inj (same_lq ok.sub h1).sq (same_lq ok.sub h2).sq
    subst ev
    rw [k1] at h
    rw [k2] at h'
    cases k3 : e.kd with
    | none => rw [k3] at h; cases h
    | flat u3 => rw [k3] at h h'; rw [← Option.some.inj h, ← Option.some.inj h']
    | tup zs => rw [k3] at h h'; rw [← Option.some.inj h, ← Option.some.inj h']
    | lst zs => rw [k3] at h h'; exact eqL_det again q1 q2 h h'
open Classical in
/-- each item's answer, by the item's own value -/
theorem in_items (I : Inv X pins σ H s) (ok : Ok X.K W H μ) {A : Around} (hu : A.units + 20 < cLine) {x : D} {vx : V} {ux : Value} (rx : Rep X.K W vx x) (wx : RelV vx ux) {ys : List D} {vs : List V} {us : List Value} {b : Bool} (rs : Reps X.K W vs ys) (ws : Vals vs us) (h : inL (fun d => eqD 20 d x) ys = some b) :
  ∃ e : Value → Bool, (∀ u, u ∈ us → SeqAt.EqAt A s u ux (e u)) ∧ us.any e = b := by
 have tri : ∀ (i : Nat) u, us[i]? = some u → ∃ v y c, vs[i]? = some v ∧ ys[i]? = some y ∧ RelV v u ∧ Rep X.K W v y ∧ eqD 20 y x = some c := fun i u hi => by
  have hl : i < vs.length := by rw [ws.length]; exact (List.getElem?_eq_some_iff.mp hi).1
  have hv : vs[i]? = some vs[i] := List.getElem?_eq_getElem hl
  obtain ⟨u', e1, w1⟩ := ws.get hv
  rw [hi] at e1
  cases e1
  obtain ⟨y, e2, r2⟩ := rs.getV hv
  obtain ⟨c, hc⟩ := inL_def h y (List.mem_of_getElem? e2)
  exact ⟨_, y, c, hv, e2, w1, r2, hc⟩
 let e : Value → Bool := fun u => decide (∃ (i : Nat) (y : D), us[i]? = some u ∧ ys[i]? = some y ∧ eqD 20 y x = some true)
 have val : ∀ (i : Nat) u y c, us[i]? = some u → ys[i]? = some y → eqD 20 y x = some c → e u = c := fun i u y c h1 h2 h3 => by
  cases c with
  | true => exact decide_eq_true ⟨i, y, h1, h2, h3⟩
  | false =>
   refine decide_eq_false fun ⟨j, y', h4, h5, h6⟩ => ?_
   obtain ⟨v, y1, c1, hv, hy, w, r, hc⟩ := tri i u h1
   rw [h2] at hy
   cases hy
   obtain ⟨v', y2, c2, hv', hy', w', r', hc'⟩ := tri j u h4
   rw [h5] at hy'
   cases hy'
   have ev := relV_inj w w'
   subst ev
   exact absurd (eqD_det I ok 20 v y y' x false true r r' h3 h6) (by decide)
 refine ⟨e, fun u hm => ?_, ?_⟩
 ·obtain ⟨i, hi, eu⟩ := List.mem_iff_getElem.mp hm
  have hi' : us[i]? = some u := by rw [List.getElem?_eq_getElem hi, eu]
  obtain ⟨v, y, c, hv, hy, w, r, hc⟩ := tri i u hi'
  rw [val i u y c hi' hy hc]
  exact (eqD_at I ok 20 A y x c v vx u ux hu r rx w wx hc).2
 ·have hb := inL_iff h
  cases b with
  | true =>
   obtain ⟨y, hy, hc⟩ := hb.mp rfl
   obtain ⟨i, hi, ey⟩ := List.mem_iff_getElem.mp hy
   have hl : i < us.length := by rw [← ws.length, rs.length]; exact hi
   rw [List.any_eq_true]
   exact ⟨us[i], List.getElem_mem hl, val i us[i] y true (List.getElem?_eq_getElem hl) (by rw [List.getElem?_eq_getElem hi, ey]) hc⟩
  | false =>
   rw [List.any_eq_false]
   intro u hm q
   have q : e u = true := q
   obtain ⟨i, y, h1, h2, h3⟩ := of_decide_eq_true q
   exact absurd (hb.mpr ⟨y, List.mem_of_getElem? h2, h3⟩) (by decide)
theorem opx_in (hu : X.A.units + 64 < cLine) : OpX X E (compareOp .In) dIn := by
 intro pins s σ H x y v u Q I rx ry q
 obtain ⟨E', W, μ, dx, dy, ok, r1, r2, p⟩ := q
 unfold dIn at p
 revert p
 cases h : inD μ dx dy with
 | none => exact fun p => p.elim
 | some b =>
  intro p
  have fin : EP X pins σ Q (.bool b) s := ⟨.bl b, H, I, rfl, post_pure ok p (.bl b)⟩
  have seqs : ∀ ys, seqD μ dy = some ys → inL (fun d => eqD 20 d dx) ys = some b → wpAny (model X.prog X.w) X.A (compareOp .In v u) (EP X pins σ Q) X.xe s := fun ys e1 e2 => by
   obtain ⟨a, vs, rfl, rs, sq⟩ := seq_rep ok r2 e1
   cases ry
   rcases sq with sq | sq
   ·obtain ⟨its, rv, pl, _⟩ := I.list sq
    obtain ⟨e, he, hb⟩ := in_items I ok (A := X.A.in1) (by show X.A.units + 1 + 20 < cLine; omega) r1 rx rs rv e2
    refine SeqAt.in_listAt e pl.isList (fun w hw => he w (by simpa using hw)) ?_
    have : its.toArray.any e = its.any e := by simp
    rw [this, hb]
    exact fin
   ·obtain ⟨its, rv, pl, _⟩ := I.tuple sq
    obtain ⟨e, he, hb⟩ := in_items I ok (A := X.A.in1) (by show X.A.units + 1 + 20 < cLine; omega) r1 rx rs rv e2
    refine SeqAt.in_tupleAt e (show s.heap.IsTuple a its.toArray from pl) (fun w hw => he w (by simpa using hw)) ?_
    have : its.toArray.any e = its.any e := by simp
    rw [this, hb]
    exact fin
  cases r2 with
  | str z hz =>
   unfold inD at h
   cases r1 with
   | str w hw =>
    dsimp only at h
    split at h
    ·rename_i c hc
     cases h
     have ew : w = ⟨#[c]⟩ := by
      obtain ⟨l⟩ := w
      congr 1
      exact Array.toList_inj.mp (by simpa using hc)
     subst ew
     exact op_in_sign pins s σ H _ _ v u Q I rx ry ⟨c, z, rfl, rfl, post_pure ok p (.bl _)⟩
    ·cases h
     exact op_in_str pins s σ H _ _ v u Q I rx ry ⟨w, z, rfl, rfl, post_pure ok p (.bl _)⟩
   | _ => cases h
  | lst z1 h1 q1 => exact seqs _ rfl (by simpa [inD, seqD] using h)
  | tup z1 h1 q1 => exact seqs _ rfl (by simpa [inD, seqD] using h)
  | @hdl a l ha =>
   unfold inD at h
   dsimp only at h
   cases hs : seqD μ (.hdl l) with
   | none => rw [hs] at h; cases h
   | some ys => rw [hs] at h; exact seqs ys hs h
  | _ => simp [inD, seqD] at h
theorem opx_notin (hu : X.A.units + 64 < cLine) : OpX X E (compareOp .NotIn) dNotIn := by
 intro pins s σ H x y v u Q I rx ry q
 obtain ⟨E', W, μ, dx, dy, ok, r1, r2, p⟩ := q
 unfold dNotIn at p
 revert p
 cases h : inD μ dx dy with
 | none => exact fun p => p.elim
 | some b =>
  intro p
  have fin : EP X pins σ Q (.bool (!b)) s := ⟨.bl (!b), H, I, rfl, post_pure ok p (.bl _)⟩
  have seqs : ∀ ys, seqD μ dy = some ys → inL (fun d => eqD 20 d dx) ys = some b → wpAny (model X.prog X.w) X.A (compareOp .NotIn v u) (EP X pins σ Q) X.xe s := fun ys e1 e2 => by
   obtain ⟨a, vs, rfl, rs, sq⟩ := seq_rep ok r2 e1
   cases ry
   rcases sq with sq | sq
   ·obtain ⟨its, rv, pl, _⟩ := I.list sq
    obtain ⟨e, he, hb⟩ := in_items I ok (A := X.A.in1) (by show X.A.units + 1 + 20 < cLine; omega) r1 rx rs rv e2
    refine SeqAt.notIn_listAt e pl.isList (fun w hw => he w (by simpa using hw)) ?_
    have : its.toArray.any e = its.any e := by simp
    rw [this, hb]
    exact fin
   ·obtain ⟨its, rv, pl, _⟩ := I.tuple sq
    obtain ⟨e, he, hb⟩ := in_items I ok (A := X.A.in1) (by show X.A.units + 1 + 20 < cLine; omega) r1 rx rs rv e2
    refine SeqAt.notIn_tupleAt e (show s.heap.IsTuple a its.toArray from pl) (fun w hw => he w (by simpa using hw)) ?_
    have : its.toArray.any e = its.any e := by simp
    rw [this, hb]
    exact fin
  cases r2 with
  | str z hz =>
   unfold inD at h
   cases r1 with
   | str w hw =>
    dsimp only at h
    split at h
    ·rename_i c hc
     cases h
     have ew : w = ⟨#[c]⟩ := by
      obtain ⟨l⟩ := w
      congr 1
      exact Array.toList_inj.mp (by simpa using hc)
     subst ew
     exact op_notIn_sign pins s σ H _ _ v u Q I rx ry ⟨c, z, rfl, rfl, post_pure ok p (.bl _)⟩
    ·cases h
     exact op_notIn_str pins s σ H _ _ v u Q I rx ry ⟨w, z, rfl, rfl, post_pure ok p (.bl _)⟩
   | _ => cases h
  | lst z1 h1 q1 => exact seqs _ rfl (by simpa [inD, seqD] using h)
  | tup z1 h1 q1 => exact seqs _ rfl (by simpa [inD, seqD] using h)
  | @hdl a l ha =>
   unfold inD at h
   dsimp only at h
   cases hs : seqD μ (.hdl l) with
   | none => rw [hs] at h; cases h
   | some ys => rw [hs] at h; exact seqs ys hs h
  | _ => simp [inD, seqD] at h
end
end DL
/-! DL7: built-in calls, items, slices, methods, calls with keywords. -/
namespace DL
open PySem L2

/-! ### calls of built-ins -/
def rC (K : PySem.W.Frag) (E : WX) (g : List D → Mu → R D) : List V → Hp → VK → Prop := fun xs H Q => ∃ (E' : XK) (W : Wd) (μ : Mu) (ds : List D), Ok K W H μ ∧ Reps K W xs ds ∧ postE K E' W H (g ds μ) Q
abbrev CallX (X : Cx) (E : WX) (f : Value) (g : List D → Mu → R D) : Prop := CallR X f (rC X.K E g)
theorem callx {X : Cx} {E : WX} {f : Value} {g : List D → Mu → R D} (h : ∀ {E' : XK} W H μ ds xs Q, Ok X.K W H μ → Reps X.K W xs ds → postE X.K E' W H (g ds μ) Q → ∃ r, CallR X f r ∧ r xs H Q) : CallX X E f g := by
 intro pins s σ H xs us Q I rx q
 obtain ⟨_, W, μ, ds, ok, r1, p⟩ := q
 obtain ⟨r, o, z⟩ := h W H μ ds xs Q ok r1 p
 exact o pins s σ H xs us Q I rx z
def dcallB (g : List D → Mu → R D) (fa : FA) : FE := fun ρ μ => (fa ρ μ).bind fun ds μ1 => g ds μ1
section
variable {X : Cx} {E : WX} {x : Str} {p pos : Pos} {e : Expr} {es : List Expr} {fa : FA} {g : List D → Mu → R D}
theorem tCB_of : ∀ σ H Q, rE X.K E (dcallB g fa) σ H Q → tCB (rC X.K E g) (rA X.K E fa) σ H Q := fun σ H Q ⟨W, ρ, μ, ok, en, p⟩ =>
 seqA p ok en fun ds μ1 W1 xs H1 g1 o1 en1 r p1 => ⟨_, W1, μ1, ds, o1, r, p1⟩
theorem de_callB {id : String} (hc : CallX X E (.builtin id) g) (hm : X.mg x = none) (ha : DA X E (e :: es) fa) (hg : Gl X x := by rfl) (hv : bootBuiltins x = some (.builtin id) := by decide +kernel) (hn : x ≠ "__name__" := by decide) (hdb : (x == ("__debug__" : Str)) = false := by decide)
  (he : starEach (e :: es) X.env = (false, eval e X.env) :: starEach es X.env := by rfl) (hpl : (backTo pos (starEach es X.env)).any (·.1) = false := by rfl) : DE X E (.Call (.Name x p) (e :: es) [] pos) (dcallB g fa) :=
 pe_imp (pe_callB hc hg hm hv ha hn hdb he hpl) tCB_of
theorem de_callTy {T : String} (hc : CallX X E (.type T) g) (hm : X.mg x = none) (ha : DA X E (e :: es) fa) (hg : Gl X x := by rfl) (hv : bootBuiltins x = some (.type T) := by decide +kernel) (hn : x ≠ "__name__" := by decide) (hdb : (x == ("__debug__" : Str)) = false := by decide)
  (he : starEach (e :: es) X.env = (false, eval e X.env) :: starEach es X.env := by rfl) (hpl : (backTo pos (starEach es X.env)).any (·.1) = false := by rfl) : DE X E (.Call (.Name x p) (e :: es) [] pos) (dcallB g fa) :=
 pe_imp (pe_callTy hc hg hm hv ha hn hdb he hpl) tCB_of
end
def lenD (μ : Mu) : D → Option Nat
 | .str x => some x.length
 | d => (seqD μ d).map (·.length)
def bLen : List D → Mu → R D
 | [d], μ => match lenD μ d with
  | some n => .ok (.int n) μ
  | none => .bad
 | _, _ => .bad
def bAbs : List D → Mu → R D
 | [.int i], μ => .ok (.int (if i < 0 then -i else i)) μ
 | _, _ => .bad
def bInt : List D → Mu → R D
 | [.int i], μ => .ok (.int i) μ
 | [.bl b], μ => .ok (.int (if b then 1 else 0)) μ
 | _, _ => .bad
def bools : List D → Option (List Bool)
 | [] => some []
 | .bl b :: ds => (bools ds).map (b :: ·)
 | _ => none
def bAll : List D → Mu → R D
 | [.lst ds], μ => match bools ds with
  | some bs => .ok (.bl (bs.all id)) μ
  | none => .bad
 | _, _ => .bad
def bAny : List D → Mu → R D
 | [.lst ds], μ => match bools ds with
  | some bs => .ok (.bl (bs.any id)) μ
  | none => .bad
 | _, _ => .bad
theorem bools_rep {K : PySem.W.Frag} {W : Wd} : ∀ {vs : List V} {ds : List D} {bs : List Bool}, Reps K W vs ds → bools ds = some bs → vs = bs.map V.bl
 | _, _, _, .nil, h => by
  simp [bools] at h
  subst h
  rfl
 | _, _, bs, .cons (d := d) (ds := ds) r rs, h => by
  cases d with
  | bl b =>
   cases r
   unfold bools at h
   cases e : bools ds with
   | none => rw [e] at h; cases h
   | some cs =>
    rw [e] at h
    cases h
    rw [bools_rep rs e]
    rfl
  | _ => simp [bools] at h
section
variable {X : Cx} {E : WX}
theorem cx_len : CallX X E (.builtin "len") bLen := callx fun W H μ ds xs Q ok r p => by
 unfold bLen at p
 split at p
 ·rename_i d
  cases r with
  | cons r1 r2 =>
   cases r2
   split at p
   ·rename_i n hn
    refine ⟨_, call_len, _, n, rfl, ?_, post_pure ok p (.int _)⟩
    cases r1 with
    | str x z =>
     simp [lenD] at hn
     exact ⟨z, hn.symm⟩
    | lst z h q =>
     simp [lenD, seqD] at hn
     exact .inl ⟨_, (same_lq ok.sub h).sq, by rw [← hn, q.length]⟩
    | tup z h q =>
     simp [lenD, seqD] at hn
     exact .inr ⟨_, same_t ok.sub h, by rw [← hn, q.length]⟩
    | @hdl a l ha =>
     unfold lenD at hn
     dsimp only at hn
     cases hs : seqD μ (.hdl l) with
     | none => rw [hs] at hn; cases hn
     | some ys =>
      rw [hs] at hn
      cases hn
      obtain ⟨a', vs, e, rs, sq⟩ := seq_rep ok (.hdl ha) hs
      cases e
      rcases sq with sq | sq
      ·exact .inl ⟨vs, sq, by rw [rs.length]⟩
      ·exact .inr ⟨vs, sq, by rw [rs.length]⟩
    | _ => simp [lenD, seqD] at hn
   ·exact p.elim
 ·exact p.elim
theorem cx_abs : CallX X E (.builtin "abs") bAbs := callx fun W H μ ds xs Q ok r p => by
 unfold bAbs at p
 split at p
 ·cases r with
  | cons r1 r2 =>
   cases r2
   cases r1
   exact ⟨_, call_abs, _, rfl, post_pure ok p (.int _)⟩
 ·exact p.elim
theorem cx_int : CallX X E (.type "int") bInt := callx fun W H μ ds xs Q ok r p => by
 unfold bInt at p
 split at p
 ·cases r with
  | cons r1 r2 =>
   cases r2
   cases r1
   exact ⟨_, call_int1, .inl ⟨_, rfl, post_pure ok p (.int _)⟩⟩
 ·cases r with
  | cons r1 r2 =>
   cases r2
   cases r1
   exact ⟨_, call_int1, .inr ⟨_, rfl, post_pure ok p (.int _)⟩⟩
 ·exact p.elim
theorem cx_all (hc : X.calm = true) : CallX X E (.builtin "all") bAll := callx fun W H μ ds xs Q ok r p => by
 unfold bAll at p
 split at p
 ·cases r with
  | cons r1 r2 =>
   cases r2
   split at p
   ·rename_i bs hb
    cases r1 with
    | lst z h q =>
     have e := bools_rep q hb
     subst e
     exact ⟨_, cr_all hc, _, bs, rfl, (same_lq ok.sub h).sq, post_pure ok p (.bl _)⟩
   ·exact p.elim
 ·exact p.elim
theorem cx_any (hc : X.calm = true) : CallX X E (.builtin "any") bAny := callx fun W H μ ds xs Q ok r p => by
 unfold bAny at p
 split at p
 ·cases r with
  | cons r1 r2 =>
   cases r2
   split at p
   ·rename_i bs hb
    cases r1 with
    | lst z h q =>
     have e := bools_rep q hb
     subst e
     exact ⟨_, cr_any hc, _, bs, rfl, (same_lq ok.sub h).sq, post_pure ok p (.bl _)⟩
   ·exact p.elim
 ·exact p.elim
end

/-! ### repr -/
mutual
def D.py : D → Option PyData
 | .non => some .none
 | .bl b => some (.bool b)
 | .int i => some (.int i)
 | .str x => some (.str x)
 | .tup xs => (D.pys xs).map .tuple
 | .lst xs => (D.pys xs).map .list
 | _ => none
def D.pys : List D → Option (List PyData)
 | [] => some []
 | x :: xs => match x.py, D.pys xs with
  | some p, some ps => some (p :: ps)
  | _, _ => none
end
mutual
theorem py_dp {K : PySem.W.Frag} {W : Wd} {H : Hp} {μ : Mu} (ok : Ok K W H μ) : ∀ {v : V} {d : D} {q : PyData}, Rep K W v d → d.py = some q → Dp K H v q
 | _, _, q, .non, h => by
  simp [D.py] at h
  subst h
  exact .non
 | _, _, q, .bl b, h => by
  simp [D.py] at h
  subst h
  exact .bl b
 | _, _, q, .int i, h => by
  simp [D.py] at h
  subst h
  exact .int i
 | _, _, q, .str x z, h => by
  simp [D.py] at h
  subst h
  exact .str x
 | _, _, q, .tup (ds := ds) z h1 r, h => by
  unfold D.py at h
  cases e : D.pys ds with
  | none => rw [e] at h; cases h
  | some ps =>
   rw [e] at h
   cases h
   exact .tup (same_t ok.sub h1) (pys_dp ok r e)
 | _, _, q, .lst (ds := ds) z h1 r, h => by
  unfold D.py at h
  cases e : D.pys ds with
  | none => rw [e] at h; cases h
  | some ps =>
   rw [e] at h
   cases h
   exact .lst ((same_lq ok.sub h1).sq) (pys_dp ok r e)
 | _, _, q, .hdl _, h => by simp [D.py] at h
 | _, _, q, .cst _, h => by simp [D.py] at h
 | _, _, q, .glo _, h => by simp [D.py] at h
 | _, _, q, .obj _ _ _, h => by simp [D.py] at h
 | _, _, q, .exc _ _, h => by simp [D.py] at h
 | _, _, q, .dtc _ _ _, h => by simp [D.py] at h
theorem pys_dp {K : PySem.W.Frag} {W : Wd} {H : Hp} {μ : Mu} (ok : Ok K W H μ) : ∀ {vs : List V} {ds : List D} {qs : List PyData}, Reps K W vs ds → D.pys ds = some qs → DpAll K H vs qs
 | _, _, qs, .nil, h => by
  simp [D.pys] at h
  subst h
  exact .nil
 | _, _, qs, .cons (d := d) (ds := ds) r rs, h => by
  unfold D.pys at h
  cases e1 : d.py with
  | none => rw [e1] at h; cases h
  | some p =>
   cases e2 : D.pys ds with
   | none => rw [e1, e2] at h; cases h
   | some ps =>
    rw [e1, e2] at h
    cases h
    exact .cons (py_dp ok r e1) (pys_dp ok rs e2)
end
/-- the text of a thing, where it is short enough -/
def reprD (d : D) : Option Str := match d.py with
 | some p => if p.showable = true ∧ p.hasDict = false ∧ p.depth ≤ 40 ∧ p.shown.length ≤ 1000000 then some p.shown else none
 | none => none
def bRepr : List D → Mu → R D
 | [d], μ => R.of ((reprD d).map .str) μ
 | _, _ => .bad
theorem cx_repr {X : Cx} {E : WX} (hg : X.A.guards = some []) (hu : X.A.units + 64 < cLine) : CallX X E (.builtin "repr") bRepr := by
 intro pins s σ H xs us Q I rx q
 obtain ⟨_, W, μ, ds, ok, r1, p⟩ := q
 unfold bRepr at p
 split at p
 ·rename_i d
  revert p
  unfold reprD
  cases hp : d.py with
  | none => exact fun p => p.elim
  | some q =>
   dsimp only
   by_cases hc : q.showable = true ∧ q.hasDict = false ∧ q.depth ≤ 40 ∧ q.shown.length ≤ 1000000
   ·rw [if_pos hc]
    intro p
    obtain ⟨c1, c2, c3, c4⟩ := hc
    cases r1 with
    | cons r1 r2 =>
     cases r2
     cases rx with
     | cons w1 w2 =>
      cases w2
      rename_i v u
      have fin : ∀ h' tk tk', (∀ b o, s.heap.get? b = some o → h'.get? b = some o) → EP X pins σ Q (.str q.shown tk) { s with heap := h', toks := tk' } := fun h' tk tk' hk => ⟨.str q.shown, H, I.kept hk, ⟨_, rfl⟩, post_pure ok p (.str _ (le_line c4))⟩
      have dp := py_dp ok r1 hp
      obtain ⟨as, rd⟩ := Dp.reads I q v u dp w1
      cases v with
      | ref a =>
       cases w1
       exact repr_of_reads' rd c1 (PyData.noDict_hsm c2) hg (by omega) (fun _ _ e => e) (fun h' tk tk' hk => fin h' tk tk' hk) (le_line c4)
      | non =>
       cases w1
       cases dp
       exact PySem.P.repr_of_none (fin _ _ _ fun _ _ e => e)
      | bl b =>
       cases w1
       cases dp
       exact PySem.P.repr_of_bool (fin _ _ _ fun _ _ e => e)
      | int i =>
       obtain ⟨t, rfl⟩ := w1
       cases dp
       exact PySem.P.repr_of_int (by simpa [PyData.showable] using c1) (fin _ _ _ fun _ _ e => e)
      | str x =>
       obtain ⟨t, rfl⟩ := w1
       cases dp
       exact PySem.P.repr_of_str (fin _ _ _ fun _ _ e => e) (le_line c4)
      | _ => cases dp
   ·rw [if_neg hc]
    exact fun p => p.elim
 ·exact p.elim

/-! ### items and slices -/
def ixD (μ : Mu) (x i : D) : Option D := match i with
 | .int k => match x with
  | .str z => (atI z.cps.toList k).map fun c => .str ⟨#[c]⟩
  | x => (seqD μ x).bind fun xs => atI xs k
 | _ => none
def dIx : D → D → Mu → R D := fun x i μ => R.of (ixD μ x i) μ
theorem Reps.atI {K : PySem.W.Frag} {W : Wd} {vs : List V} {ds : List D} {i : Int} {d : D} (r : Reps K W vs ds) (h : atI ds i = some d) : ∃ v, L2.atI vs i = some v ∧ Rep K W v d := by
 unfold L2.atI at h ⊢
 rw [r.length]
 cases e : ixN ds.length i with
 | none => rw [e] at h; cases h
 | some j =>
  rw [e] at h
  exact r.get h
section
variable {X : Cx} {E : WX}
theorem ixx {g : D → D → Mu → R D} (h : ∀ {E' : XK} W H μ dx dy vx vy Q, Ok X.K W H μ → Rep X.K W vx dx → Rep X.K W vy dy → postE X.K E' W H (g dx dy μ) Q → ∃ r, IxR X r ∧ r vx vy H Q) : IxR X (rD X.K E g) := by
 intro value slice pins s σ H x y v u Q I rx ry q hs
 obtain ⟨E', W, μ, dx, dy, ok, r1, r2, p⟩ := q
 obtain ⟨r, o, z⟩ := h W H μ dx dy x y Q ok r1 r2 p
 exact o value slice pins s σ H x y v u Q I rx ry z hs
theorem ixx_all : IxR X (rD X.K E dIx) := ixx fun W H μ dx dy vx vy Q ok r1 r2 p => by
 unfold dIx at p
 revert p
 cases h : ixD μ dx dy with
 | none => exact fun p => p.elim
 | some d =>
  intro p
  unfold ixD at h
  cases r2 with
  | int k =>
   dsimp only at h
   have go : ∀ ys, seqD μ dx = some ys → L2.atI ys k = some d → ∃ r, IxR X r ∧ r vx (.int k) H Q := fun ys e1 e2 => by
    obtain ⟨a, vs, rfl, rs, sq⟩ := seq_rep ok r1 e1
    obtain ⟨v, e3, r3⟩ := rs.atI e2
    rcases sq with sq | sq
    ·exact ⟨_, ix_list, _, _, _, v, rfl, rfl, sq, e3, post_pure ok p r3⟩
    ·exact ⟨_, ix_tup, _, _, _, v, rfl, rfl, sq, e3, post_pure ok p r3⟩
   cases r1 with
   | str z hz =>
    dsimp only at h
    cases e : L2.atI z.cps.toList k with
    | none => rw [e] at h; cases h
    | some c =>
     rw [e] at h
     cases h
     exact ⟨_, ix_str, z, k, c, rfl, rfl, hz, e, post_pure ok p (.str _ (by show 1 ≤ sizeLine; decide))⟩
   | lst z h1 q1 => exact go _ rfl (by simpa [seqD] using h)
   | tup z h1 q1 => exact go _ rfl (by simpa [seqD] using h)
   | @hdl a l ha =>
    dsimp only at h
    cases hs : seqD μ (.hdl l) with
    | none => rw [hs] at h; cases h
    | some ys => rw [hs] at h; exact go ys hs h
   | _ => simp [seqD] at h
  | _ => simp at h
theorem de_ix {a b : Expr} {fa fb : FE} {pos : Pos} (ha : DE X E a fa) (hb : DE X E b fb) (hs : PlainIx b := by exact fun _ _ => rfl) : DE X E (.Subscript a b pos) (dbin dIx fa fb) := pe_imp (pe_ix ixx_all ha hb hs) (tOp_of opd_D)
/-- a part of a slice -/
abbrev FO := En → Mu → R (Option Int)
def postO (K : PySem.W.Frag) (E : XK) (W : Wd) (H : Hp) (r : R (Option Int)) (Q : Option Int → Hp → Prop) : Prop := match r with
 | .ok o μ => ∀ W' H', Go W H W' H' → Ok K W' H' μ → Q o H'
 | .ex c fs μ => ∀ W' H' d, Go W H W' H' → Ok K W' H' μ → ExcIs K W' H' fs d → E (.ref (cl K c)) d H'
 | .bad => False
def rO (K : PySem.W.Frag) (E : WX) (f : FO) : TO := fun σ H Q => ∃ W ρ μ, Ok K W H μ ∧ Envs K W σ ρ ∧ postO K (WE E σ) W H (f ρ μ) Q
abbrev DO (X : Cx) (E : WX) (e : Option Expr) (f : FO) : Prop := PO X e (rO X.K E f)
theorem po_imp {e : Option Expr} {t t' : TO} (h : PO X e t) (i : ∀ σ H Q, t' σ H Q → t σ H Q) : PO X e t' := ⟨fun pins s σ H Q I q => h.run pins s σ H Q I (i σ H Q q)⟩
def onone : FO := fun _ μ => .ok none μ
def osome (f : FE) : FO := fun ρ μ => (f ρ μ).bind fun d μ1 => match d with
 | .int i => .ok (some i) μ1
 | _ => .bad
theorem do_none : DO X E none onone := po_imp po_none fun σ H Q ⟨W, ρ, μ, ok, en, p⟩ => p W H (Go.refl _ _) ok
theorem do_some {e : Expr} {f : FE} (h : DE X E e f) : DO X E (some e) (osome f) := po_imp (po_some h) fun σ H Q ⟨W, ρ, μ, ok, en, p⟩ => by
 refine ⟨W, ρ, μ, ok, en, ?_⟩
 unfold osome at p
 revert p
 cases f ρ μ with
 | ok d μ1 =>
  rw [R.bind_ok]
  cases d with
  | int i =>
   intro p W1 v H1 g1 o1 r1
   cases r1
   exact ⟨i, rfl, p W1 H1 g1 o1⟩
  | _ => exact fun p => p.elim
 | ex c fs μ1 => exact fun p => p
 | bad => exact fun p => p
def cutD (xs : List D) (lo hi : Option Int) : List D := (xs.drop (HT.sIx xs.length 0 lo)).take (HT.sIx xs.length xs.length hi - HT.sIx xs.length 0 lo)
theorem Reps.cutV {K : PySem.W.Frag} {W : Wd} {vs : List V} {ds : List D} (r : Reps K W vs ds) (lo hi : Option Int) : Reps K W (L2.cutV vs lo hi) (cutD ds lo hi) := by
 unfold L2.cutV cutD
 rw [r.length]
 exact (r.drop _).take _
theorem cutD_len (xs : List D) (lo hi : Option Int) : (cutD xs lo hi).length ≤ xs.length := by
 unfold cutD
 rw [List.length_take, List.length_drop]
 omega
def slD (x : D) (lo hi : Option Int) : Option D := match x with
 | .lst xs => some (.lst (cutD xs lo hi))
 | .tup xs => some (.tup (cutD xs lo hi))
 | .str z => some (.str (cutS z lo hi))
 | _ => none
def dsl (fe : FE) (fl fh : FO) : FE := fun ρ μ => (fe ρ μ).bind fun x μ1 => (fl ρ μ1).bind fun lo μ2 => (fh ρ μ2).bind fun hi μ3 => R.of (slD x lo hi) μ3
def rSl (K : PySem.W.Frag) (E : WX) : V → Option Int → Option Int → Hp → VK → Prop := fun x lo hi H Q => ∃ (E' : XK) (W : Wd) (μ : Mu) (dx : D), Ok K W H μ ∧ Rep K W x dx ∧ postE K E' W H (R.of (slD dx lo hi) μ) Q
theorem slr {r : V → Option Int → Option Int → Hp → VK → Prop} (h : ∀ x lo hi H Q, r x lo hi H Q → ∃ r', SlR X r' ∧ r' x lo hi H Q) : SlR X r := by
 intro pins s σ H x v vl vu lo hi sl Q I rx hs pl pu q
 obtain ⟨r', o, z⟩ := h x lo hi H Q q
 exact o pins s σ H x v vl vu lo hi sl Q I rx hs pl pu z
theorem cutS_len (z : Str) (lo hi : Option Int) : (cutS z lo hi).length ≤ z.length := by
 show (((z.cps.toList.drop _).take _).toArray).size ≤ z.cps.size
 rw [List.size_toArray, List.length_take, List.length_drop, Array.length_toList]
 omega
theorem sl_all : SlR X (rSl X.K E) := slr fun x lo hi H Q ⟨_, W, μ, dx, ok, r, p⟩ => by
 cases r with
 | lst z h q => exact ⟨_, sl_list, _, _, rfl, (same_lq ok.sub h).sq, fun a ha => p _ _ _ (Go.new ok ha) (ok.new ha) (rep_lst ok ha (Nat.le_trans (cutD_len _ _ _) z) (q.cutV lo hi))⟩
 | @tup a xs ds z h q =>
  refine ⟨_, sl_tupA, _, _, rfl, same_t ok.sub h, fun hw => ?_, fun _ b hb => p _ _ _ (Go.new ok hb) (ok.new hb) (rep_tup ok hb (Nat.le_trans (cutD_len _ _ _) z) (q.cutV lo hi))⟩
  have e : cutD ds lo hi = ds := by
   unfold cutD
   rw [← q.length, hw.1, hw.2]
   simp [q.length]
  exact post_pure ok p (by rw [e]; exact .tup z h q)
 | str y z => exact ⟨_, sl_str, y, rfl, z, post_pure ok p (.str _ (Nat.le_trans (cutS_len _ _ _) z))⟩
 | _ => exact p.elim
theorem de_slice {e : Expr} {lo hi : Option Expr} {fe : FE} {fl fh : FO} {p2 pos : Pos} (he : DE X E e fe) (hl : DO X E lo fl) (hh : DO X E hi fh) : DE X E (.Subscript e (.Slice lo hi none p2) pos) (dsl fe fl fh) := by
 refine pe_imp (pe_slice (sl_all (E := E)) he hl hh) fun σ H Q ⟨W, ρ, μ, ok, en, p⟩ => ?_
 refine seq p ok en fun x μ1 W1 v H1 g1 o1 en1 r p1 => ⟨W1, ρ, μ1, o1, en1, ?_⟩
 revert p1
 cases fl ρ μ1 with
 | ex c fs μ2 => exact fun p => p
 | bad => exact fun p => p
 | ok lo μ2 =>
  rw [R.bind_ok]
  intro p1 W2 H2 g2 o2
  refine ⟨W2, ρ, μ2, o2, en1.mono g2.le, ?_⟩
  have p2 := post.mono g2 p1
  revert p2
  cases fh ρ μ2 with
  | ex c fs μ3 => exact fun p => p
  | bad => exact fun p => p
  | ok hi μ3 =>
   rw [R.bind_ok]
   exact fun p2 W3 H3 g3 o3 => ⟨_, W3, μ3, x, o3, r.mono (g2.le.trans g3.le), post.mono g3 p2⟩
end

/-! ### methods of built-in types -/
def tyD (T : String) (d : D) (μ : Mu) : Bool := match d with
 | .str _ => T == "str"
 | .lst _ => T == "list"
 | .hdl l => match μ[l]? with
  | some (.lst _) => T == "list"
  | some (.dct _ _) => T == "dict"
  | _ => false
 | _ => false
theorem tyD_rep {K : PySem.W.Frag} {W : Wd} {H : Hp} {μ : Mu} {T : String} {v : V} {d : D} (ok : Ok K W H μ) (r : Rep K W v d) (h : tyD T d μ = true) : tyV K T v H := by
 cases r with
 | str x z => exact eq_of_beq h
 | lst z h1 q => exact .inl ⟨eq_of_beq h, _, (same_lq ok.sub h1).sq⟩
 | @hdl a l ha =>
  unfold tyD at h
  dsimp only at h
  cases hm : μ[l]? with
  | none => rw [hm] at h; cases h
  | some m =>
   rw [hm] at h
   obtain ⟨o, ho, c⟩ := ok.cell l a m ha hm
   cases m with
   | lst xs =>
    obtain ⟨vs, rfl, _⟩ := c
    exact .inl ⟨eq_of_beq h, _, .inl (.inl ho)⟩
   | dct ks xs =>
    obtain ⟨vs, rfl, _⟩ := c
    exact .inr (.inr (.inl ⟨eq_of_beq h, .inl ⟨_, ho⟩⟩))
   | _ => cases h
 | _ => cases h
def rM (K : PySem.W.Frag) (E : WX) (g : D → List D → Mu → R D) : V → List V → Hp → VK → Prop := fun x xs H Q => ∃ (E' : XK) (W : Wd) (μ : Mu) (d : D) (ds : List D), Ok K W H μ ∧ Rep K W x d ∧ Reps K W xs ds ∧ postE K E' W H (g d ds μ) Q
abbrev MtX (X : Cx) (E : WX) (id : String) (g : D → List D → Mu → R D) : Prop := MtR X id (rM X.K E g)
theorem mtx {X : Cx} {E : WX} {id : String} {g : D → List D → Mu → R D} (h : ∀ {E' : XK} W H μ d ds x xs Q, Ok X.K W H μ → Rep X.K W x d → Reps X.K W xs ds → postE X.K E' W H (g d ds μ) Q → ∃ r, MtR X id r ∧ r x xs H Q) : MtX X E id g := by
 intro pins s σ H x xs v us Q I rx rs q
 obtain ⟨_, W, μ, d, ds, ok, r1, r2, p⟩ := q
 obtain ⟨r, o, z⟩ := h W H μ d ds x xs Q ok r1 r2 p
 exact o pins s σ H x xs v us Q I rx rs z
def dbm (T : String) (g : D → List D → Mu → R D) (fo : FE) (fa : FA) : FE := fun ρ μ => (fo ρ μ).bind fun x μ1 => if tyD T x μ1 = true then (fa ρ μ1).bind fun ds μ2 => g x ds μ2 else .bad
section
variable {X : Cx} {E : WX} {o e : Expr} {es : List Expr} {fo : FE} {fa : FA} {name : Str} {apos cpos : Pos} {T id : String} {g : D → List D → Mu → R D}
theorem de_bm (pa : PlainAttrs T) (slot : Slot T name id) (hty : typeOf (.builtin id) = pure (.type "method_descriptor")) (hm : MtX X E id g) (ho : DE X E o fo) (ha : DA X E (e :: es) fa)
  (hbase : attributeBase o name X.env (eval o X.env) = eval o X.env := by rfl)
  (hfew : ((backTo cpos (starEach (e :: es) X.env)).all (fun x => !x.1) && (backToKw cpos (keywordEach [] X.env)).all (fun x => x.1.isSome)
   && decide ((e :: es).length + ([] : List Keyword).length + (if ([] : List Keyword).isEmpty then 0 else 1) < 30)) = true := by rfl)
  (hline : (apos.endLine == cpos.line) = true := by rfl) (hs : starEach (e :: es) X.env = (false, eval e X.env) :: starEach es X.env := by rfl) (hplain : (backTo cpos (starEach es X.env)).any (·.1) = false := by rfl) :
  DE X E (.Call (.Attribute o name apos) (e :: es) [] cpos) (dbm T g fo fa) := by
 refine pe_imp (pe_bm pa slot hty hm ho ha hbase hfew hline hs hplain) fun σ H Q ⟨W, ρ, μ, ok, en, p⟩ => ?_
 refine seq p ok en fun x μ1 W1 v H1 g1 o1 en1 r p1 => ?_
 by_cases ht : tyD T x μ1 = true
 ·rw [if_pos ht] at p1
  exact ⟨tyD_rep o1 r ht, seqA p1 o1 en1 fun ds μ2 W2 xs H2 g2 o2 en2 rs p2 => ⟨_, W2, μ2, x, ds, o2, r.mono g2.le, rs, p2⟩⟩
 ·rw [if_neg ht] at p1
  exact p1.elim
end
def mAppend : D → List D → Mu → R D := fun x ds μ => match x, ds with
 | .hdl l, [d] => match μ[l]? with
  | some (.lst xs) => if xs.length < 1000000 then .ok .non (μ.set l (.lst (xs ++ [d]))) else .bad
  | _ => .bad
 | _, _ => .bad
theorem mx_append {X : Cx} {E : WX} : MtX X E "list.append" mAppend := mtx fun W H μ d ds x xs Q ok r rs p => by
 unfold mAppend at p
 split at p
 ·rename_i l y
  split at p
  ·rename_i ys hm
   split at p
   ·rename_i hn
    cases r with
    | @hdl a _ ha =>
     cases rs with
     | cons r1 r2 =>
      cases r2
      obtain ⟨o, ho, vs, rfl, q⟩ := ok.cell l a _ ha hm
      obtain ⟨ok2, g2⟩ := ok.setcell (m' := .lst (ys ++ [y])) ha hm (fun z => nomatch z) ⟨vs ++ [_], rfl, q.app (.cons r1 .nil)⟩
      exact ⟨_, mt_append, a, vs, _, rfl, rfl, ho, by rw [q.length]; exact Nat.lt_of_lt_of_le hn (by decide), p _ _ _ g2 ok2 .non⟩
   ·exact p.elim
  ·exact p.elim
 ·exact p.elim
def mSplit : D → List D → Mu → R D := fun x ds μ => match x, ds with
 | .str a, [.str b] => if 0 < b.length ∧ a.length ≤ 1000000 ∧ (∀ y ∈ Txt.split a b, y.length ≤ 1000000) then .ok (.lst ((Txt.split a b).map .str)) μ else .bad
 | _, _ => .bad
def strsD : List D → Option (List Str)
 | [] => some []
 | .str x :: ds => (strsD ds).map (x :: ·)
 | _ => none
def mJoin : D → List D → Mu → R D := fun x ds μ => match x, ds with
 | .str a, [.lst ds] => match strsD ds with
  | some ys => if (ys.map (·.length)).sum + ys.length * a.length ≤ 1000000 ∧ (Txt.join a ys).length ≤ 1000000 then .ok (.str (Txt.join a ys)) μ else .bad
  | none => .bad
 | _, _ => .bad

end DL
/-! DL8: calls with keywords, texts, sets of numbers. -/
namespace DL
open PySem L2

/-! ### calls with keywords -/
/-- how n values and the keywords ks come to the parameters -/
structure KDfl (K : PySem.W.Frag) (fd : FuncData) (ps : List Str) (n : Nat) (ks : List Str) (gD : List D → List D → List D) : Prop where
 ex : ∃ (g : List Value → List Value → List Value) (gV : List V → List V → List V), (∀ us ws, us.length = n → ws.length = ks.length → (g us ws).length = ps.length) ∧ KBn K fd ps n ks g gV ∧
  ∀ W vs ds zs es, vs.length = n → zs.length = ks.length → Reps K W vs ds → Reps K W zs es → Reps K W (gV vs zs) (gD ds es)
abbrev DK (X : Cx) (E : WX) (kws : List Keyword) (f : FA) : Prop := PK X kws (rA X.K E f)
theorem pk_imp {X : Cx} {e : List Keyword} {t t' : TA} (h : PK X e t) (i : ∀ σ H Q, t' σ H Q → t σ H Q) : PK X e t' := ⟨fun pos pins s σ H Q I q => h.run pos pins s σ H Q I (i σ H Q q)⟩
def dcallK (F : List D → Mu → R D) (gD : List D → List D → List D) (fa fk : FA) : FE := fun ρ μ => (fa ρ μ).bind fun ds μ1 => (fk ρ μ1).bind fun es μ2 => F (gD ds es) μ2
section
variable {X : Cx} {E : WX} {k n : Nat} {f : Addr} {fd : FuncData} {ps ks : List Str} {F : List D → Mu → R D} {gD : List D → List D → List D} {x : Str} {p pos kpos : Pos} {e : Expr} {es : List Expr} {kws : List Keyword} {fa fk : FA} {nm : Option Str} {fe : FE}
theorem dk_nil : DK X E [] aNil := pk_imp pk_nil fun σ H Q ⟨W, ρ, μ, ok, en, p⟩ => p W [] H (Go.refl W H) ok .nil
theorem dk_cons (h : DE X E e fe) (hs : DK X E kws fk) : DK X E (⟨nm, e, kpos⟩ :: kws) (aCons fe fk) := by
 refine pk_imp (pk_cons h hs) fun σ H Q ⟨W, ρ, μ, ok, en, p⟩ => ?_
 refine ⟨W, ρ, μ, ok, en, ?_⟩
 unfold aCons at p
 revert p
 cases fe ρ μ with
 | ok d μ1 =>
  intro p W1 x H1 g1 o1 r1
  refine ⟨W1, ρ, μ1, o1, en.mono g1.le, ?_⟩
  have p := postA.mono g1 p
  revert p
  rw [R.bind_ok]
  cases fk ρ μ1 with
  | ok ds μ2 => exact fun p W2 xs H2 g2 o2 r2 => p W2 (x :: xs) H2 g2 o2 (.cons (r1.mono g2.le) r2)
  | ex c fs μ2 => exact fun p => p
  | bad => exact fun p => p
 | ex c fs μ1 => exact fun p => p
 | bad => exact fun p => p
theorem callF_kw {pins : List (Addr × Obj)} {σ : St} {H : Hp} {s : Shared} {Q : VK} {us ws : List Value} {vs zs : List V} {W : Wd} {ds es : List D} {μ : Mu} (G : FnG X.prog X.w X.K X.mg X.base k f fd ps F) (c : Cal X E k) (b : KDfl X.K fd ps n ks gD)
  (I : Inv X pins σ H s) (hn : vs.length = n) (hk : zs.length = ks.length) (rv : Vals vs us) (rz : Vals zs ws) (ok : Ok X.K W H μ) (r : Reps X.K W vs ds) (r' : Reps X.K W zs es) (q : postE X.K (WE E σ) W H (F (gD ds es) μ) Q) : wpAny (model X.prog X.w) X.A (call (.ref f) us (ks.zip ws)) (EP X pins σ Q) X.xe s := by
 obtain ⟨g, gV, hl, kb, rp⟩ := b.ex
 have h1 : us.length = n := by rw [← rv.length]; exact hn
 have h2 : ws.length = ks.length := by rw [← rz.length]; exact hk
 exact wpAny_call (run_g (args := ⟨us, ks.zip ws⟩) G c I (hl us ws h1 h2) (kb.to s us ws I.kIn h1 h2) (kb.rel rv rz) ok (rp W vs ds zs es hn hk r r') q)
theorem de_callK (G : FnG X.prog X.w X.K X.mg X.base k f fd ps F) (c : Cal X E k) (hm : X.mg x = some (.ref f)) (hk : PySem.W.keepIn X.K (.ref f) = true) (b : KDfl X.K fd ps (e :: es).length ks gD) (ha : DA X E (e :: es) fa) (hkw : DK X E kws fk)
  (hf : HasLen fa (e :: es).length := by repeat (first | exact aNil_len | refine aCons_len ?_)) (hf2 : HasLen fk ks.length := by repeat (first | exact aNil_len | refine aCons_len ?_))
  (hall : (backToKw pos (keywordEach kws X.env)).all (·.1.isSome) = true := by rfl) (hks : (backToKw pos (keywordEach kws X.env)).filterMap (·.1) = ks := by rfl)
  (hg : Gl X x := by rfl) (hdb : (x == ("__debug__" : Str)) = false := by decide) (he : starEach (e :: es) X.env = (false, eval e X.env) :: starEach es X.env := by rfl)
  (hpl : ((backTo pos (starEach (e :: es) X.env)).any (·.1) || (backToKw pos (keywordEach kws X.env)).any (·.1.isNone)) = false := by rfl) :
  DE X E (.Call (.Name x p) (e :: es) kws pos) (dcallK F gD fa fk) := by
 refine ⟨fun pins s σ H Q I q => ?_⟩
 obtain ⟨W, ρ, μ, ok, en, pq⟩ := q
 refine wpAny_Call_Name_kw (ld_glob I hg hm ?_ hdb)
 unfold dcallK at pq
 have rd : rA X.K E fa σ H (fun vs H1 => ∃ W1 ds μ1, vs.length = (e :: es).length ∧ Ok X.K W1 H1 μ1 ∧ Envs X.K W1 σ ρ ∧ Reps X.K W1 vs ds ∧ postE X.K (WE E σ) W1 H1 ((fk ρ μ1).bind fun es μ2 => F (gD ds es) μ2) Q) := by
  refine ⟨W, ρ, μ, ok, en, ?_⟩
  revert pq
  cases hq : fa ρ μ with
  | ok ds μ1 => exact fun p W1 xs H1 g o r => ⟨W1, ds, μ1, by rw [r.length]; exact hf ρ μ ds μ1 hq, o, en.mono g.le, r, post.mono g p⟩
  | ex c fs μ1 => exact fun p => p
  | bad => exact fun p => p
 refine PySem.W.callWith_KW (h₀ := X.base) I.ok.mod.kin hk hall (thn (ha.run pos pins s σ H _ I rd) fun us s1 ⟨vs, H1, I1, r, W1, ds, μ1, hn, o1, en1, r1, q1⟩ => ?_) hpl he
 have rd2 : rA X.K E fk σ H1 (fun zs H2 => ∃ W2 es μ2, zs.length = ks.length ∧ Ok X.K W2 H2 μ2 ∧ Le W1 W2 ∧ Reps X.K W2 zs es ∧ postE X.K (WE E σ) W2 H2 (F (gD ds es) μ2) Q) := by
  refine ⟨W1, ρ, μ1, o1, en1, ?_⟩
  revert q1
  cases hq : fk ρ μ1 with
  | ok es μ2 => exact fun p W2 xs H2 g o r => ⟨W2, es, μ2, by rw [r.length]; exact hf2 ρ μ1 es μ2 hq, o, g.le, r, post.mono g p⟩
  | ex c fs μ1 => exact fun p => p
  | bad => exact fun p => p
 refine thn (hkw.run pos pins s1 σ H1 _ I1 rd2) fun ws s2 ⟨zs, H2, I2, rz, W2, es, μ2, hz, o2, l2, r2, q2⟩ => ⟨I2.kIn, ?_⟩
 rw [hks]
 exact callF_kw G c b I2 hn hz r rz o2 (r1.mono l2) r2 q2
end
section
variable {K : PySem.W.Frag} {x qual : Str} {params : Arguments} {body : List Stmt} {scope : Scope} {kws : List (Str × V)} {f : Addr} {fd : FuncData} {ps : List Str}
/-- keyword-only defaults alone: n values written, the keywords ks, the lacking ones ms -/
theorem kdfl (F : FunD K x qual params body scope [] kws f fd) (n : Nat) (ks : List Str) (ms : List (Str × V)) (md : List D) (g : {α : Type} → List α → List α → List α → List α) (hk : kws ≠ []) (hms : ∀ q ∈ ms, q ∈ kws)
  (hrel : ∀ {vs mz zs : List V} {us mv ws : List Value}, Vals vs us → Vals mz mv → Vals zs ws → Vals (g vs mz zs) (g us mv ws))
  (hrep : ∀ W vs ds zs es, vs.length = n → zs.length = ks.length → Reps K W vs ds → Reps K W zs es → Reps K W (g vs (ms.map (·.2)) zs) (g ds md es))
  (hlen : ∀ us mv ws : List Value, us.length = n → mv.length = ms.length → ws.length = ks.length → (g us mv ws).length = ps.length)
  (h : ∀ (D : Addr) (doc pm : Value) (an : Option Addr) (cdv ct : Value) (us mv ws : List Value), us.length = n → mv.length = ms.length → ws.length = ks.length →
   KwChain D ((ms.map (·.1)).zip mv) (bindArgs (PySem.W.fnOf x qual params body scope .none (.ref D) doc pm an cdv ct) ⟨us, ks.zip ws⟩) (ps.zip (g us mv ws))) :
  KDfl K fd ps n ks (fun ds es => g ds md es) := by
 obtain ⟨oc, od, dV, kV, doc, pm, an, cdv, ct, osl, rfl, lk, hcd, hD, hK⟩ := F.ex
 rcases hD with ⟨_, rfl⟩ | ⟨e, _⟩
 ·rcases hK with e | ⟨D0, rfl, hq⟩
  ·exact absurd e hk
  ·obtain ⟨mv, hl, rk, hks⟩ := kwd_vals (ms := ms) fun q hm => hq q (hms q hm)
   exact ⟨fun us ws => g us mv ws, fun vs zs => g vs (ms.map (·.2)) zs, fun us ws h1 h2 => hlen us mv ws h1 hl h2,
    ⟨fun s us ws X l1 l2 => BindsTo.of_looks fun M => KwChain.looks X hks (h D0 doc pm an cdv ct us mv ws l1 hl l2), fun r1 r2 => hrel r1 rk r2⟩, hrep⟩
 ·exact absurd rfl e
end

/-! ### texts -/
theorem strs_reps {K : PySem.W.Frag} {W : Wd} : ∀ {ys : List Str}, (∀ y ∈ ys, y.length ≤ sizeLine) → Reps K W (ys.map V.str) (ys.map D.str)
 | [], _ => .nil
 | y :: ys, h => .cons (.str y (h y (by simp))) (strs_reps fun z hz => h z (by simp [hz]))
theorem strsD_rep {K : PySem.W.Frag} {W : Wd} : ∀ {vs : List V} {ds : List D} {ys : List Str}, Reps K W vs ds → strsD ds = some ys → vs = ys.map V.str
 | _, _, _, .nil, h => by
  simp [strsD] at h
  subst h
  rfl
 | _, _, _, .cons (d := d) (ds := ds) r rs, h => by
  cases d with
  | str x =>
   cases r
   unfold strsD at h
   cases e : strsD ds with
   | none => rw [e] at h; cases h
   | some cs =>
    rw [e] at h
    cases h
    rw [strsD_rep rs e]
    rfl
  | _ => simp [strsD] at h

/-! ### len(set(xs)) of numbers -/
def intsD : List D → Option (List Int)
 | [] => some []
 | .int x :: ds => (intsD ds).map (x :: ·)
 | _ => none
theorem intsD_rep {K : PySem.W.Frag} {W : Wd} : ∀ {vs : List V} {ds : List D} {ys : List Int}, Reps K W vs ds → intsD ds = some ys → vs = ys.map V.int
 | _, _, _, .nil, h => by
  simp [intsD] at h
  subst h
  rfl
 | _, _, _, .cons (d := d) (ds := ds) r rs, h => by
  cases d with
  | int x =>
   cases r
   unfold intsD at h
   cases e : intsD ds with
   | none => rw [e] at h; cases h
   | some cs =>
    rw [e] at h
    cases h
    rw [intsD_rep rs e]
    rfl
  | _ => simp [intsD] at h
theorem vals_ints : ∀ {ns : List Int} {us : List Value}, Vals (ns.map V.int) us → PyProof.Rows.IntsAre us ns
 | [], _, .nil => .nil
 | n :: ns, _, .cons r t => by
  obtain ⟨k, rfl⟩ := r
  exact .cons n k (vals_ints t)
/-- how many unlike ones -/
def kinds (ns : List Int) : Nat := (PyProof.Rows.firstMet (fun i => ns.getD i 0) ns.length).length
end DL
/-! DL9: and, or, not as values, chains, conditional expressions, isinstance, texts. -/
namespace DL
open PySem L2

def dand (f g : FE) : FE := fun ρ μ => (f ρ μ).bind fun d μ1 => match d with
 | .bl true => g ρ μ1
 | .bl false => .ok (.bl false) μ1
 | _ => .bad
def dnot (f : FE) : FE := fun ρ μ => (f ρ μ).bind fun d μ1 => match d with
 | .bl b => .ok (.bl (!b)) μ1
 | _ => .bad
def dneg (f : FE) : FE := fun ρ μ => (f ρ μ).bind fun d μ1 => match d with
 | .int i => .ok (.int (-i)) μ1
 | _ => .bad
def dite (c : FT) (f g : FE) : FE := fun ρ μ => (c ρ μ).bind fun b μ1 => if b = true then f ρ μ1 else g ρ μ1
def dchain (g1 g2 : D → D → Mu → R D) (fa fb fc : FE) : FE := fun ρ μ => (fa ρ μ).bind fun x μ1 => (fb ρ μ1).bind fun y μ2 => (g1 x y μ2).bind fun z μ3 => match z with
 | .bl true => (fc ρ μ3).bind fun w μ4 => g2 y w μ4
 | .bl false => .ok (.bl false) μ3
 | _ => .bad
section
variable {X : Cx} {E : WX} {a b c : Expr} {rest : List Expr} {pos : Pos} {f g h : FE}
theorem de_one {op : BoolOp} (ha : DE X E a f) : DE X E (.BoolOp op [a] pos) f := pe_one ha
theorem de_and (ha : DE X E a f) (hb : DE X E (.BoolOp .And (b :: rest) pos) g) : DE X E (.BoolOp .And (a :: b :: rest) pos) (dand f g) := pe_imp (pe_and ha hb) fun σ H Q ⟨W, ρ, μ, ok, en, p⟩ =>
 seq p ok en fun d μ1 W1 x H1 g1 o1 en1 r p1 => by
  cases d with
  | bl k =>
   cases r
   cases k with
   | true => exact ⟨true, rfl, W1, ρ, μ1, o1, en1, p1⟩
   | false => exact ⟨false, rfl, post_pure o1 p1 (.bl _)⟩
  | _ => exact p1.elim
theorem de_not (ha : DE X E a f) : DE X E (.UnaryOp .Not a pos) (dnot f) := pe_imp (pe_not ha) fun σ H Q ⟨W, ρ, μ, ok, en, p⟩ =>
 seq p ok en fun d μ1 W1 x H1 g1 o1 en1 r p1 => by
  cases d with
  | bl k =>
   cases r
   exact ⟨k, rfl, post_pure o1 p1 (.bl _)⟩
  | _ => exact p1.elim
theorem de_neg (ha : DE X E a f) : DE X E (.UnaryOp .USub a pos) (dneg f) := pe_imp (pe_un un_neg ha) fun σ H Q ⟨W, ρ, μ, ok, en, p⟩ =>
 seq p ok en fun d μ1 W1 x H1 g1 o1 en1 r p1 => by
  cases d with
  | int k =>
   cases r
   exact ⟨k, rfl, post_pure o1 p1 (.int _)⟩
  | _ => exact p1.elim
theorem seqTE {K : PySem.W.Frag} {fa : FT} {k : Bool → Mu → R D} {σ : St} {H : Hp} {W : Wd} {ρ : En} {μ : Mu} {Q : VK} {Q1 : Bool → Hp → Prop} (p : postE K (WE E σ) W H ((fa ρ μ).bind k) Q) (ok : Ok K W H μ) (en : Envs K W σ ρ)
  (hk : ∀ b μ1 W1 H1, Go W H W1 H1 → Ok K W1 H1 μ1 → Envs K W1 σ ρ → postE K (WE E σ) W1 H1 (k b μ1) Q → Q1 b H1) : rT K E fa σ H Q1 := by
 refine ⟨W, ρ, μ, ok, en, ?_⟩
 revert p
 cases fa ρ μ with
 | ok d μ1 => exact fun p W1 H1 g o => hk d μ1 W1 H1 g o (en.mono g.le) (post.mono g p)
 | ex c fs μ1 => exact fun p => p
 | bad => exact fun p => p
theorem de_ifx {fc : FT} (hc : DT X E c fc) (ha : DE X E a f) (hb : DE X E b g) : DE X E (.IfExp c a b pos) (dite fc f g) := pe_imp (pe_ifExp hc ha hb) fun σ H Q ⟨W, ρ, μ, ok, en, p⟩ =>
 seqTE p ok en fun k μ1 W1 H1 g1 o1 en1 p1 => by
  cases k with
  | true => exact ⟨W1, ρ, μ1, o1, en1, p1⟩
  | false => exact ⟨W1, ρ, μ1, o1, en1, p1⟩
theorem tChain_of {g1 g2 : D → D → Mu → R D} : ∀ σ H Q, rE X.K E (dchain g1 g2 f g h) σ H Q → tChain (rD X.K E g1) (rD X.K E g2) (rE X.K E f) (rE X.K E g) (rE X.K E h) σ H Q := fun σ H Q ⟨W, ρ, μ, ok, en, p⟩ =>
 seq p ok en fun x μ1 W1 xv H1 k1 o1 en1 r1 p1 => seq p1 o1 en1 fun y μ2 W2 yv H2 k2 o2 en2 r2 p2 => by
  refine ⟨WE E σ, W2, μ2, x, y, o2, r1.mono k2.le, r2, ?_⟩
  revert p2
  cases g1 x y μ2 with
  | ex c fs μ3 => exact fun p => p
  | bad => exact fun p => p
  | ok z μ3 =>
   rw [R.bind_ok]
   cases z with
   | bl k =>
    intro p2 W3 v H3 k3 o3 r3
    cases r3
    refine ⟨k, rfl, ?_⟩
    have p3 := post.mono k3 p2
    cases k with
    | true =>
     rw [if_pos rfl]
     exact seq p3 o3 (en2.mono k3.le) fun w μ4 W4 wv H4 k4 o4 en4 r4 p4 => ⟨_, W4, μ4, y, w, o4, (r2.mono k3.le).mono k4.le, r4, p4⟩
    | false =>
     rw [if_neg Bool.false_ne_true]
     exact post_pure o3 p3 (.bl _)
   | _ => exact fun p => p.elim
theorem de_chain {op op' : CmpOp} {g1 g2 : D → D → Mu → R D} (ho : OpX X E (compareOp op) g1) (ho' : OpX X E (compareOp op') g2) (ha : DE X E a f) (hb : DE X E b g) (hc : DE X E c h) (hm : lastMarks [op, op'] [b, c] = false := by with_unfolding_all rfl) : DE X E (.Compare a [op, op'] [b, c] pos) (dchain g1 g2 f g h) :=
 pe_imp (pe_chain ho ho' ha hb hc hm) tChain_of
theorem dt_chain {op op' : CmpOp} {g1 g2 : D → D → Mu → R D} (ho : OpX X E (compareOp op) g1) (ho' : OpX X E (compareOp op') g2) (ha : DE X E a f) (hb : DE X E b g) (hc : DE X E c h) (hm : lastMarks [op, op'] [b, c] = false := by with_unfolding_all rfl) : DT X E (.Compare a [op, op'] [b, c] pos) (dtest (dchain g1 g2 f g h)) := by
 refine pt_imp (pt_chain ho ho' ha hb hc hm) fun σ H Q q => ?_
 have q := tB_of σ H Q q
 unfold tTest
 exact tChain_of σ H _ q
/-- a module's name -/
theorem de_glob {x : Str} {d : D} {v : V} {u : Value} (hm : X.mg x = some u) (r : RelV v u) (rp : ∀ W, Rep X.K W v d) (hg : Gl X x := by rfl) (hd : (x == ("__debug__" : Str)) = false := by decide) : DE X E (.Name x pos) (dc d) := dconst (pe_glob hg hm r hd) rp
/-- a built-in class -/
theorem de_ty {x : Str} {T : String} (hm : X.mg x = none) (hg : Gl X x := by rfl) (hv : bootBuiltins x = some (.type T) := by decide +kernel) (hn : x ≠ "__name__" := by decide) (hd : (x == ("__debug__" : Str)) = false := by decide) : DE X E (.Name x pos) (dc (.cst (.ty T))) := dconst (pe_bltn (v := .ty T) hg hm hv rfl hn hd) fun _ => .cst _
end

/-! ### isinstance -/
def tyName (μ : Mu) : D → Option String
 | .non => some "NoneType"
 | .bl _ => some "bool"
 | .int _ => some "int"
 | .str _ => some "str"
 | .tup _ => some "tuple"
 | .lst _ => some "list"
 | .hdl l => match μ[l]? with
  | some (.lst _) => some "list"
  | some (.dct _ _) => some "dict"
  | _ => none
 | _ => none
def bIsi : List D → Mu → R D
 | [d, .cst (.ty T)], μ => match tyName μ d with
  | some t => match kitB t T with
   | some b => .ok (.bl b) μ
   | none => .bad
  | none => .bad
 | _, _ => .bad
theorem tyName_rep {K : PySem.W.Frag} {W : Wd} {H : Hp} {μ : Mu} {v : V} {d : D} {t : String} (ok : Ok K W H μ) (r : Rep K W v d) (h : tyName μ d = some t) : TyX K H v (.type t) := by
 cases r with
 | non => simp [tyName] at h; subst h; exact .base .non
 | bl b => simp [tyName] at h; subst h; exact .base (.bl b)
 | int i => simp [tyName] at h; subst h; exact .base (.int i)
 | str x z => simp [tyName] at h; subst h; exact .base (.str x)
 | tup z h1 q =>
  simp [tyName] at h
  subst h
  rcases h1 with (h1 | ⟨o, h1⟩) | ⟨o, its, n, h1, h2, _⟩
  ·exact .base (.tup (ok.sub _ _ h1))
  ·exact .fTuple (ok.sub _ _ h1)
  ·exact .kTuple h1 h2
 | lst z h1 q =>
  simp [tyName] at h
  subst h
  rcases h1 with (h1 | ⟨o, h1⟩) | ⟨its, n, h1, _⟩
  ·exact .base (.lst (ok.sub _ _ h1))
  ·exact .base (.frz (ok.sub _ _ h1))
  ·exact .kList h1 rfl
 | @hdl a l ha =>
  unfold tyName at h
  dsimp only at h
  cases hm : μ[l]? with
  | none => rw [hm] at h; cases h
  | some m =>
   rw [hm] at h
   obtain ⟨o, ho, c⟩ := ok.cell l a m ha hm
   cases m with
   | lst xs =>
    cases h
    obtain ⟨vs, rfl, _⟩ := c
    exact .base (.lst ho)
   | dct ks xs =>
    cases h
    obtain ⟨vs, rfl, _⟩ := c
    exact .base (.dK ho)
   | _ => cases h
 | _ => simp [tyName] at h
theorem cx_isi {X : Cx} {E : WX} : CallX X E (.builtin "isinstance") bIsi := callx fun W H μ ds xs Q ok r p => by
 unfold bIsi at p
 split at p
 ·rename_i d T
  cases r with
  | cons r1 r2 =>
   cases r2 with
   | cons r2 r3 =>
    cases r3
    cases r2
    split at p
    ·rename_i t ht
     split at p
     ·rename_i b hb
      exact ⟨_, call_isi, _, _, .type t, .type T, b, rfl, .ty T, tyName_rep ok r1 ht, kit_ty hb, post_pure ok p (.bl b)⟩
     ·exact p.elim
    ·exact p.elim
 ·exact p.elim

/-! ### texts -/
theorem mx_join {X : Cx} {E : WX} : MtX X E "str.join" mJoin := mtx fun W H μ d ds x xs Q ok r rs p => by
 unfold mJoin at p
 split at p
 ·split at p
  ·rename_i ys hy
   split at p
   ·rename_i hn
    cases r
    cases rs with
    | cons r1 r2 =>
     cases r2
     cases r1 with
     | lst z h q =>
      have e := strsD_rep q hy
      subst e
      exact ⟨_, mt_join, _, _, ys, rfl, rfl, .inl (same_lq ok.sub h).sq, Nat.le_trans hn.1 (by decide), post_pure ok p (.str _ (le_line hn.2))⟩
   ·exact p.elim
  ·exact p.elim
 ·exact p.elim
theorem mx_split {X : Cx} {E : WX} : MtX X E "str.split" mSplit := mtx fun W H μ d ds x xs Q ok r rs p => by
 unfold mSplit at p
 split at p
 ·rename_i a b
  split at p
  ·rename_i hn
   cases r
   cases rs with
   | cons r1 r2 =>
    cases r2
    cases r1
    refine ⟨_, mt_split, a, b, rfl, rfl, ?_, ?_, fun q hq => p _ _ _ (Go.new ok hq) (ok.new hq) (rep_lst ok hq ?_ (strs_reps fun y hy => ?_))⟩
    ·exact beq_eq_false_iff_ne.mpr (by omega)
    ·show a.length + 2 ≤ 16777216
     omega
    ·rw [List.length_map]
     exact Nat.le_trans (PyProof.Rows.split_le a b) (by show a.length + 2 ≤ 16777216; omega)
    ·exact le_line (hn.2.2 y hy)
  ·exact p.elim
 ·exact p.elim
end DL
/-! DL10: the end of a law whose defs are told by DL's functions. -/
namespace DL
open PySem PySem.Spec PyProof.Rows L2

/-- the script's own world -/
def scriptW (a : Addr) (H : Hp) : Wd := ⟨fun b => if b = a then H a else none, []⟩
theorem ints_reps {K : PySem.W.Frag} {W : Wd} : ∀ ns : List Int, Reps K W (ns.map V.int) (ns.map D.int)
 | [] => .nil
 | n :: ns => .cons (.int n) (ints_reps ns)
section
variable {P : Program} {w : World} {K : PySem.W.Frag} {mg mb : Str → Option Value} {k : Nat} {fa a : Addr} {fd : FuncData} {x : Str} {F : List D → Mu → R D} {s1 : Shared} {vs : List Value} {ns : List Int}
/-- what is told of the tables at the start -/
structure TabHead (K : PySem.W.Frag) (h : Heap) : Prop where
 hd : ∀ p ∈ lamDefs, PySem.W.codeHdIn K (He.cT K p.1).1 (He.cT K p.1).2 = true
 out : ∀ p ∈ lamDefs, K.lookup (He.cT K p.1).2 = none
 empty : ∀ p ∈ lamDefs, h.get? (He.cT K p.1).2 = some { cls := .none, data := .fields #[] }
/-- .. and within a def -/
def TabIn (K : PySem.W.Frag) (base : Heap) (mg : Str → Option Value) : Prop := ∀ p ∈ lamDefs, LamX.TabB base mg (He.cT K p.1).1 (He.cT K p.1).2
theorem tabs_of {q : Addr × Str} (h : q ∈ tabsOf K) : ∃ p ∈ lamDefs, q = ((He.cT K p.1).2, p.2) := by
 obtain ⟨p, h1, h2⟩ := List.mem_map.mp h
 exact ⟨p, h1, h2.symm⟩
theorem law_g (th : TabHead K s1.heap) (hbm : ∃ (bm : Addr) (ob : Obj), mg "__builtins__" = some (.ref bm) ∧ bm ≠ builtinsNs ∧ s1.heap.get? bm = some ob ∧ ob.cls = .type "module" ∧ ob.dict = some builtinsNs ∧ ob.data = .plain)
  (kin : K.In s1.heap) (hns : s1.heap.Ns mainGlobals mg) (hb : s1.heap.Ns builtinsNs mb) (hbb : ∀ x : Str, x ≠ "__name__" → mb x = bootBuiltins x) (hlim : s1.heap.NoLimit) (hg : s1.gens = #[])
  (ha : s1.heap.get? a = some { cls := .type "list", data := .seq vs.toArray }) (hi : IntsAre vs ns) (hl : ns.length ≤ sizeLine) (hr : Room k callerA)
  (G : ∀ base : Heap, K.In base → base.Ns mainGlobals mg → TabIn K base mg → FnG P w K mg base k fa fd [x] F) (hbind : ∀ (s : Shared) (u : Value), BindsTo s fd ⟨[u], []⟩ [(x, u)])
  (hF : ∃ μ', F [.lst (ns.map D.int)] [] = .ok (.bl true) μ') :
  codeAny (model P w) callerA (.call (.ref fa) ⟨[.ref a], []⟩) (fun r s' => r = .ok (.ret (.bool true)) ∧ OldK s1.heap s'.heap ∧ s'.os = s1.os ∧ AllBare s'.gens) s1 := by
 have rv : Vals (ns.map V.int) vs := L2.vals_ints hi
 have lv : vs.length = ns.length := hi.length
 obtain ⟨μ', hF⟩ := hF
 have tbs : ∀ b, b ∈ (tabsOf K).map (·.1) → ∃ p ∈ lamDefs, b = (He.cT K p.1).2 := fun b hb => by
  obtain ⟨q, hq, e⟩ := List.mem_map.mp hb
  obtain ⟨p, hp, e2⟩ := tabs_of hq
  exact ⟨p, hp, by rw [← e, e2]⟩
 have tbAt : ∀ b, b ∈ (tabsOf K).map (·.1) → s1.heap.get? b = some { cls := .none, data := .fields #[] } := fun b hb => by
  obtain ⟨p, hp, e⟩ := tbs b hb
  rw [e]
  exact th.empty p hp
 have aNo : a ∉ (tabsOf K).map (·.1) := fun z => by
  have q := tbAt a z
  rw [ha] at q
  exact nomatch (congrArg Obj.data (Option.some.inj q))
 have main : ∀ H : Hp, (∀ b, H b ≠ none → b = a ∨ b ∈ (tabsOf K).map (·.1)) → (∀ b, b ∈ (tabsOf K).map (·.1) → H b = some (.tbl #[])) → (∀ u, H a = some u → ∃ o xs, u = .frz o (.lst xs)) → Lq K H a (ns.map V.int) → HOk P w H s1.heap → (H a ≠ none → K.lookup a = none) →
   codeAny (model P w) callerA (.call (.ref fa) ⟨[.ref a], []⟩) (fun r s' => r = .ok (.ret (.bool true)) ∧ OldK s1.heap s'.heap ∧ s'.os = s1.os ∧ AllBare s'.gens) s1 := by
  intro H only tbl frz lq hok hK
  have out : ∀ b, b ≠ a → b ∉ (tabsOf K).map (·.1) → H b = none := fun b hb hb2 => by
   cases q : H b with
   | none => rfl
   | some u =>
    rcases only b (by rw [q]; simp) with z | z
    ·exact absurd z hb
    ·exact absurd z hb2
  have free : ∀ {b : Addr} {o : Obj}, s1.heap.get? b = some o → (∀ its n, o.data ≠ .seq its n) → o.data ≠ .fields #[] → H b = none := fun {b o} e h1 h2 => by
   refine out b (fun z => ?_) fun z => ?_
   ·rw [z, ha] at e
    exact h1 _ _ (by rw [← Option.some.inj e])
   ·rw [tbAt b z] at e
    exact h2 (by rw [← Option.some.inj e])
  have dicts : ∀ {b : Addr} {o : Obj} {es : Array DictEntry} {ep : Nat}, s1.heap.get? b = some o → o.data = .dict es ep → H b = none := fun {b o es ep} e d =>
   free e (fun its n z => nomatch (d.symm.trans z)) (fun z => nomatch (d.symm.trans z))
  have ns' : ∀ {b : Addr} {m : Str → Option Value}, s1.heap.Ns b m → (hidT s1.heap H).Ns b m := by
   rintro b m ⟨o, es, ep, e, d, r⟩
   exact ⟨o, es, ep, hidT_get e (dicts e d), d, r⟩
  have kb : K.In (hidT s1.heap H) := fun b o e => hidT_get (kin b o e) (by
   cases q : H b with
   | none => rfl
   | some u =>
    rcases only b (by rw [q]; simp) with z | z
    ·rw [z] at e q
     rw [hK (by rw [q]; simp)] at e
     cases e
    ·obtain ⟨p, hp, ep⟩ := tbs b z
     rw [ep, th.out p hp] at e
     cases e)
  have md : Mod K mg (hidT s1.heap H) := by
   obtain ⟨mc, l1, l2⟩ := hlim
   exact ⟨kb, ns' hns, ⟨mb, ns' hb, hbb⟩, ⟨mc, ns' l1, l2⟩⟩
  have tin : TabIn K (hidT s1.heap H) mg := fun p hp => by
   have at_ := th.empty p hp
   refine ⟨?_, ?_, fun z => ?_⟩
   ·obtain ⟨o, us, x1, x2, x3, x4, x5, x6, x7, e1, r1, r2, r3, r4⟩ := PySem.W.codeHd_of_K kin (th.hd p hp)
    refine ⟨o, us, x1, x2, x3, x4, x5, x6, x7, hidT_get e1 (free e1 (fun its n z => nomatch (r2.symm.trans z)) fun z => ?_), r1, r2, r3, r4⟩
    have e3 : us = #[] := by simpa using r2.symm.trans z
    rw [e3] at r3
    simp at r3
   ·obtain ⟨bm, ob, b1, b2, b3, b4, b5, b6⟩ := hbm
    refine ⟨bm, ob, b1, b2, fun q => ?_, fun q => ?_, hidT_get b3 (free b3 (fun its n z => nomatch (b6.symm.trans z)) (fun z => nomatch (b6.symm.trans z))), b4, b5, b6⟩
    ·obtain ⟨o, es, ep, e, hd, _⟩ := hns
     rw [q, e] at b3
     rw [Option.some.inj b3, b6] at hd
     cases hd
    ·rw [q, at_] at b3
     rw [← Option.some.inj b3] at b6
     cases b6
   ·obtain ⟨o, es, ep, e, hd, _⟩ := hns
    rw [z, at_] at e
    rw [← Option.some.inj e] at hd
    cases hd
  have e0 : Env0 P w K mg (hidT s1.heap H) callerA [] s1 H := by
   refine ⟨rfl, md, fun b o e => of_hidT e, Nat.le_of_eq (hidT_size _ _), trivial, ?_, hok, .of_eq hg⟩
   intro b hb
   cases hb
  have wok : Ok K (scriptW a H) H [] := by
   refine ⟨fun b o e => ?_, rfl, List.nodup_nil, fun l b o e => ?_, fun l b o e => ?_, ⟨fun q hq => LamX.TabS.nil (tbl q.1 (List.mem_map.mpr ⟨q, hq, rfl⟩)), fun q hq => if_neg fun z => aNo (List.mem_map.mpr ⟨q, hq, z⟩)⟩⟩
   ·have e : (if b = a then H a else none) = some o := e
    by_cases z : b = a
    ·rw [if_pos z] at e
     rw [z]; exact e
    ·rw [if_neg z] at e
     cases e
   ·cases l <;> cases e
   ·cases l <;> cases e
  have lq' : Lq K (scriptW a H).S a (ns.map V.int) := by
   have ea : (scriptW a H).S a = H a := if_pos rfl
   rcases lq with (h | ⟨o, h⟩) | h
   ·exact .inl (.inl (ea.trans h))
   ·exact .inl (.inr ⟨o, ea.trans h⟩)
   ·exact .inr h
  have rp : Reps K (scriptW a H) [.ref a] [.lst (ns.map D.int)] := .cons (.lst (by rw [List.length_map]; exact hl) lq' (ints_reps ns)) .nil
  have run := (G _ kb (ns' hns) tin).run callerA [] s1 H ⟨[.ref a], []⟩ [.ref a] [.ref a] (fun v _ => v = .bl true) (fun _ _ _ => False) (scriptW a H) _ [] hr rfl e0 rfl (hbind s1 (.ref a)) (.cons rfl .nil) wok rp (by
   rw [hF]
   intro W' v H' _ _ r
   cases r
   rfl)
  refine codeAny_mono run fun r s' h => ?_
  match r, h with
  | .error e, h =>
   obtain ⟨_, _, _, _, _, _, _, _, _, _, _, _, z⟩ := h
   exact z.elim
  | .ok (.ret u), ⟨v, H', os, bare, un, hok', r', q⟩ =>
   have q : v = .bl true := q
   subst q
   cases r'
   have stay : ∀ b o, b ∉ (tabsOf K).map (·.1) → s1.heap.get? b = some o → s'.heap.get? b = some o := fun b o nb e => by
    by_cases z : b = a
    ·cases q : H b with
     | none => exact un.keep b o e q (by intro z; cases z) (by simp)
     | some u =>
      have q' := q
      rw [z] at q'
      obtain ⟨ob, xs, rfl⟩ := frz u q'
      have z2 := un.frzs b ob _ q
      obtain ⟨e1, _⟩ := hok b _ q
      obtain ⟨e2, _⟩ := hok' b _ z2
      rw [e] at e1
      cases e1
      exact e2
    ·exact un.keep b o e (out b z nb) (by intro z; cases z) (by simp)
   have more : ∀ b, b ∈ (tabsOf K).map (·.1) → ∃ ps : Array Value, s'.heap.get? b = some { cls := .none, data := .fields ps } := fun b hb => by
    obtain ⟨m, z⟩ := un.tbls b #[] (tbl b hb)
    exact ⟨_, hok' b _ z⟩
   refine ⟨rfl, ⟨fun b o e => ?_, fun b o e => ?_⟩, os, bare⟩
   ·by_cases hb : b ∈ (tabsOf K).map (·.1)
    ·obtain ⟨ps, hm⟩ := more b hb
     obtain ⟨p, hp, ep⟩ := tbs b hb
     have e4 := Option.some.inj ((tbAt b hb).symm.trans e)
     subst e4
     refine .inr (.inl ⟨?_, rfl, #[], ps, rfl, by rw [Array.empty_append]; exact hm⟩)
     have cd := PySem.W.codeHd_of_K kin (th.hd p hp)
     rw [← ep] at cd
     exact (cd.tab (tbAt b hb)).isCodeTable
    ·exact .inl (stay b o hb e)
   ·by_cases hb : b ∈ (tabsOf K).map (·.1)
    ·obtain ⟨ps, hm⟩ := more b hb
     exact ⟨_, hm⟩
    ·exact ⟨o, stay b o hb e⟩
 cases hk : K.lookup a with
 | some o =>
  have e := kin a o hk
  rw [ha] at e
  cases e
  refine main (fun b => if b ∈ (tabsOf K).map (·.1) then some (.tbl #[]) else none) (fun b z => ?_) (fun b hb => if_pos hb) (fun u z => ?_) (.inr ⟨vs, _, hk, by rw [lv]; exact hl, rv⟩) (fun b u z => ?_) (fun z => absurd (if_neg aNo) z)
  ·by_cases hb : b ∈ (tabsOf K).map (·.1)
   ·exact .inr hb
   ·exact absurd (if_neg hb) z
  ·exact nomatch ((if_neg aNo).symm.trans z)
  ·by_cases hb : b ∈ (tabsOf K).map (·.1)
   ·have z' := (if_pos hb).symm.trans z
    cases z'
    exact tbAt b hb
   ·exact nomatch ((if_neg hb).symm.trans z)
 | none =>
  have ea : (fun b => if b = a then some (HO.frz { cls := .type "list", data := .seq vs.toArray } (.lst (ns.map V.int))) else if b ∈ (tabsOf K).map (·.1) then some (.tbl #[]) else none) a = some (HO.frz { cls := .type "list", data := .seq vs.toArray } (.lst (ns.map V.int))) := if_pos rfl
  have ne : ∀ b, b ∈ (tabsOf K).map (·.1) → b ≠ a := fun b hb z => aNo (by rw [← z]; exact hb)
  refine main (fun b => if b = a then some (.frz { cls := .type "list", data := .seq vs.toArray } (.lst (ns.map V.int))) else if b ∈ (tabsOf K).map (·.1) then some (.tbl #[]) else none) (fun b z => ?_) (fun b hb => (if_neg (ne b hb)).trans (if_pos hb)) (fun u z => ?_) (.inl (.inr ⟨_, ea⟩)) (fun b u z => ?_) fun _ => hk
  ·by_cases hb : b = a
   ·exact .inl hb
   ·by_cases hb2 : b ∈ (tabsOf K).map (·.1)
    ·exact .inr hb2
    ·exact absurd ((if_neg hb).trans (if_neg hb2)) z
  ·have z' := ea.symm.trans z
   cases z'
   exact ⟨_, _, rfl⟩
  ·by_cases hb : b = a
   ·have z' := (if_pos hb).symm.trans z
    cases z'
    rw [hb]
    exact ⟨ha, by rw [List.length_map]; exact hl, vs, _, rv, ha⟩
   ·have z1 := (if_neg hb).symm.trans z
    by_cases hb2 : b ∈ (tabsOf K).map (·.1)
    ·have z' := (if_pos hb2).symm.trans z1
     cases z'
     exact tbAt b hb2
    ·exact nomatch ((if_neg hb2).symm.trans z1)
end
/-- a law: what its def is worth at every script -/
theorem walk_g {l : PySem.W.OpenLaw} {n k : Nat} {q : Program} {loose : List Str} {XP : (Str → Option Value) → Heap → Prop} {YP : World → Heap → Prop} {d : DefRec} {x : Str}
  (hn : l.most = some n) (hn2 : n ≤ sizeLine) (hdf : d.params.defaults = []) (hr : Room k callerA)
  (G : ∀ (w : World) (mg : Str → Option Value) (fa : Addr) (h : Heap), YP w h → h.Ns mainGlobals mg → mg d.name = some (.ref fa) →
   ∃ (K : PySem.W.Frag) (fd : FuncData) (F : List D → Mu → R D), K.In h ∧ TabHead K h ∧ (∀ (s : Shared) (u : Value), BindsTo s fd ⟨[u], []⟩ [(x, u)]) ∧
    (∀ base : Heap, K.In base → base.Ns mainGlobals mg → TabIn K base mg → FnG l.prog w K mg base k fa fd [x] F) ∧ ∀ ns : List Int, ns.length ≤ n → (∀ z ∈ ns, Builtin.Int.intBits z ≤ 1048576) → ∃ μ', F [.lst (ns.map D.int)] [] = .ok (.bl true) μ') :
  PySem.W.WalkO q loose XP YP l.row.toRowW d [] (fun f vs => PySem.call f vs) := by
 refine Att.attach_callB hn hdf fun w s0 s1 mg mb fa o pm cd doc a vs ns Gr Y ho hd hcd hmg hobj hints hlen hbits hgn => ?_
 obtain ⟨K, fd, F, kin, th, hb, hG, hF⟩ := G w mg fa _ Y Gr.T.g hmg
 exact law_g th Gr.T.bmain kin Gr.T.g Gr.T.b Gr.T.builtins Gr.T.nolimit hgn hobj hints (Nat.le_trans hlen hn2) hr hG hb (hF ns hlen hbits)
end DL
/-! DL11: picking by places. -/
namespace DL
open PySem L2
def pk {α : Type} : List α → Nat → List α → List α
 | [], _, r => r
 | a :: _, 0, r => a :: r
 | _ :: l, i + 1, r => pk l i r
theorem vals_pk {r : List V} {r' : List Value} (h : Vals r r') : ∀ {vs : List V} {us : List Value} (i : Nat), Vals vs us → Vals (pk vs i r) (pk us i r')
 | _, _, _, .nil => h
 | _, _, 0, .cons a _ => .cons a h
 | _, _, i + 1, .cons _ l => vals_pk h i l
theorem reps_pk {K : PySem.W.Frag} {W : Wd} {r : List V} {r' : List D} (h : Reps K W r r') : ∀ {vs : List V} {us : List D} (i : Nat), Reps K W vs us → Reps K W (pk vs i r) (pk us i r')
 | _, _, _, .nil => h
 | _, _, 0, .cons a _ => .cons a h
 | _, _, i + 1, .cons _ l => reps_pk h i l
end DL
/-! DL12: reckoning with the mirrors. -/
namespace DL
open PySem L2
def O.thn : O → FS → O
 | .nx ρ μ, h => h ρ μ
 | .rt d μ, _ => .rt d μ
 | .bk ρ μ, _ => .bk ρ μ
 | .ct ρ μ, _ => .ct ρ μ
 | .ex ρ c fs μ, _ => .ex ρ c fs μ
 | .bad, _ => .bad
@[simp] theorem O.thn_nx (ρ : En) (μ : Mu) (h : FS) : (O.nx ρ μ).thn h = h ρ μ := of_eq_true (eq_self _)
@[simp] theorem O.thn_rt (d : D) (μ : Mu) (h : FS) : (O.rt d μ).thn h = .rt d μ := of_eq_true (eq_self _)
@[simp] theorem O.thn_bk (ρ : En) (μ : Mu) (h : FS) : (O.bk ρ μ).thn h = .bk ρ μ := of_eq_true (eq_self _)
@[simp] theorem O.thn_ct (ρ : En) (μ : Mu) (h : FS) : (O.ct ρ μ).thn h = .ct ρ μ := of_eq_true (eq_self _)
@[simp] theorem O.thn_ex (ρ : En) (c : Nat) (fs : List (Str × D)) (μ : Mu) (h : FS) : (O.ex ρ c fs μ).thn h = .ex ρ c fs μ := of_eq_true (eq_self _)
@[simp] theorem ap_seq (g h : FS) (ρ : En) (μ : Mu) : gseq g h ρ μ = (g ρ μ).thn h := by
 unfold gseq O.thn
 cases g ρ μ <;> rfl
@[simp] theorem ap_nil (ρ : En) (μ : Mu) : gnil ρ μ = .nx ρ μ := of_eq_true (eq_self _)
@[simp] theorem ap_ret (f : FE) (ρ : En) (μ : Mu) : gret f ρ μ = (f ρ μ).to ρ fun d μ1 => .rt d μ1 := of_eq_true (eq_self _)
@[simp] theorem ap_expr (f : FE) (ρ : En) (μ : Mu) : gexpr f ρ μ = (f ρ μ).to ρ fun _ μ1 => .nx ρ μ1 := of_eq_true (eq_self _)
@[simp] theorem ap_set (i : Nat) (f : FE) (ρ : En) (μ : Mu) : gasg (.nm i) f ρ μ = (f ρ μ).to ρ fun d μ1 => .nx (ρ.set i (some d)) μ1 := by
 unfold gasg
 simp
@[simp] theorem ap_asgT (ts : List Tg) (f : FE) (ρ : En) (μ : Mu) : gasg (.tp ts) f ρ μ = (f ρ μ).to ρ fun d μ1 => match asg (.tp ts) d ρ with | some ρ' => .nx ρ' μ1 | none => .bad := of_eq_true (eq_self _)
@[simp] theorem ap_gif (c : FT) (g h : FS) (ρ : En) (μ : Mu) : gif c g h ρ μ = (c ρ μ).to ρ fun b μ1 => if b = true then g ρ μ1 else h ρ μ1 := of_eq_true (eq_self _)
@[simp] theorem ap_for (fi : FA) (t : Tg) (b : FS) (ρ : En) (μ : Mu) : gfor fi t b ρ μ = (fi ρ μ).to ρ fun xs μ1 => forD t b xs ρ μ1 := of_eq_true (eq_self _)
@[simp] theorem ap_var (i : Nat) (ρ : En) (μ : Mu) : dvar i ρ μ = match ρ[i]? with | some (some d) => .ok d μ | _ => .bad := of_eq_true (eq_self _)
@[simp] theorem ap_dc (d : D) (ρ : En) (μ : Mu) : dc d ρ μ = .ok d μ := of_eq_true (eq_self _)
@[simp] theorem ap_bin (g : D → D → Mu → R D) (fa fb : FE) (ρ : En) (μ : Mu) : dbin g fa fb ρ μ = (fa ρ μ).bind fun x μ1 => (fb ρ μ1).bind fun y μ2 => g x y μ2 := of_eq_true (eq_self _)
@[simp] theorem ap_test (f : FE) (ρ : En) (μ : Mu) : dtest f ρ μ = (f ρ μ).bind fun d μ1 => match d with | .bl b => .ok b μ1 | _ => .bad := of_eq_true (eq_self _)
@[simp] theorem ap_tand (f g : FT) (ρ : En) (μ : Mu) : tand f g ρ μ = (f ρ μ).bind fun b μ1 => if b = true then g ρ μ1 else .ok false μ1 := of_eq_true (eq_self _)
@[simp] theorem ap_tor (f g : FT) (ρ : En) (μ : Mu) : tor f g ρ μ = (f ρ μ).bind fun b μ1 => if b = true then .ok true μ1 else g ρ μ1 := of_eq_true (eq_self _)
@[simp] theorem ap_tnot (f : FT) (ρ : En) (μ : Mu) : tnot f ρ μ = (f ρ μ).bind fun b μ1 => .ok (!b) μ1 := of_eq_true (eq_self _)
@[simp] theorem ap_tyes (ρ : En) (μ : Mu) : tyes ρ μ = .ok true μ := of_eq_true (eq_self _)
@[simp] theorem ap_aNil (ρ : En) (μ : Mu) : aNil ρ μ = .ok [] μ := of_eq_true (eq_self _)
@[simp] theorem ap_aCons (f : FE) (g : FA) (ρ : En) (μ : Mu) : aCons f g ρ μ = (f ρ μ).bind fun d μ1 => (g ρ μ1).bind fun ds μ2 => .ok (d :: ds) μ2 := of_eq_true (eq_self _)
@[simp] theorem ap_tup (f : FA) (ρ : En) (μ : Mu) : dtup f ρ μ = (f ρ μ).bind fun ds μ1 => if ds.length ≤ 1000000 then .ok (.tup ds) μ1 else .bad := of_eq_true (eq_self _)
@[simp] theorem ap_lst (f : FA) (ρ : En) (μ : Mu) : dlst f ρ μ = (f ρ μ).bind fun ds μ1 => if ds.length ≤ 1000000 then .ok (.lst ds) μ1 else .bad := of_eq_true (eq_self _)
@[simp] theorem ap_cel (f : FA) (ρ : En) (μ : Mu) : dcel f ρ μ = (f ρ μ).bind fun ds μ1 => if ds.length ≤ 1000000 then .ok (.hdl μ1.length) (μ1 ++ [.lst ds]) else .bad := of_eq_true (eq_self _)
@[simp] theorem ap_frz (f : FE) (ρ : En) (μ : Mu) : dfrz f ρ μ = (f ρ μ).bind fun d μ1 => match d with
 | .hdl l => match μ1[l]? with
  | some (.lst xs) => if xs.length ≤ 1000000 then .ok (.lst xs) (μ1.set l .gone) else .bad
  | _ => .bad
 | _ => .bad := of_eq_true (eq_self _)
@[simp] theorem ap_callB (g : List D → Mu → R D) (fa : FA) (ρ : En) (μ : Mu) : dcallB g fa ρ μ = (fa ρ μ).bind fun ds μ1 => g ds μ1 := of_eq_true (eq_self _)
@[simp] theorem ap_call (F : List D → Mu → R D) (dd : List D) (fa : FA) (ρ : En) (μ : Mu) : dcall F dd fa ρ μ = (fa ρ μ).bind fun ds μ1 => F (ds ++ dd) μ1 := of_eq_true (eq_self _)
@[simp] theorem ap_callK (F : List D → Mu → R D) (gD : List D → List D → List D) (fa fk : FA) (ρ : En) (μ : Mu) : dcallK F gD fa fk ρ μ = (fa ρ μ).bind fun ds μ1 => (fk ρ μ1).bind fun es μ2 => F (gD ds es) μ2 := of_eq_true (eq_self _)
@[simp] theorem ap_bm (T : String) (g : D → List D → Mu → R D) (fo : FE) (fa : FA) (ρ : En) (μ : Mu) : dbm T g fo fa ρ μ = (fo ρ μ).bind fun x μ1 => if tyD T x μ1 = true then (fa ρ μ1).bind fun ds μ2 => g x ds μ2 else .bad := of_eq_true (eq_self _)
@[simp] theorem ap_sl (fe : FE) (fl fh : FO) (ρ : En) (μ : Mu) : dsl fe fl fh ρ μ = (fe ρ μ).bind fun x μ1 => (fl ρ μ1).bind fun lo μ2 => (fh ρ μ2).bind fun hi μ3 => R.of (slD x lo hi) μ3 := of_eq_true (eq_self _)
@[simp] theorem ap_onone (ρ : En) (μ : Mu) : onone ρ μ = .ok none μ := of_eq_true (eq_self _)
@[simp] theorem ap_itA (f : FE) (ρ : En) (μ : Mu) : itA f ρ μ = (f ρ μ).bind fun d μ1 => R.of (itemsD d) μ1 := of_eq_true (eq_self _)
@[simp] theorem ap_ite (c : FT) (f g : FE) (ρ : En) (μ : Mu) : dite c f g ρ μ = (c ρ μ).bind fun b μ1 => if b = true then f ρ μ1 else g ρ μ1 := of_eq_true (eq_self _)
@[simp] theorem ap_lc (fi : FA) (vs : List Nat) (t : Tg) (ft : FT) (fe : FE) (ρ : En) (μ : Mu) : dlc fi vs t ft fe ρ μ = (fi ρ μ).bind fun xs μ1 => (lcD t ft fe (wipeD ρ vs) xs μ1).bind fun ys μ2 => .ok (.lst ys) μ2 := of_eq_true (eq_self _)
@[simp] theorem ap_osome (f : FE) (ρ : En) (μ : Mu) : osome f ρ μ = (f ρ μ).bind fun d μ1 => match d with | .int i => .ok (some i) μ1 | _ => .bad := of_eq_true (eq_self _)
@[simp] theorem ap_itR1 (f : FA) (ρ : En) (μ : Mu) : itR1 f ρ μ = (f ρ μ).bind fun ds μ1 => match ds with
 | [.int n] => if n ≤ 1000000 ∧ -1000000 ≤ n then .ok (upto 0 n.toNat) μ1 else .bad
 | _ => .bad := of_eq_true (eq_self _)
@[simp] theorem ap_itE (f : FA) (ρ : En) (μ : Mu) : itE f ρ μ = (f ρ μ).bind fun ds μ1 => match ds with
 | [.lst xs] => .ok (enumD 0 xs) μ1
 | _ => .bad := of_eq_true (eq_self _)
@[simp] theorem items_lst (xs : List D) : itemsD (.lst xs) = some xs := of_eq_true (eq_self _)
@[simp] theorem items_tup (xs : List D) : itemsD (.tup xs) = some xs := of_eq_true (eq_self _)
@[simp] theorem items_str (x : Str) : itemsD (.str x) = some (signs x) := of_eq_true (eq_self _)
@[simp] theorem add_int (i j : Int) (μ : Mu) : addD (.int i) (.int j) μ = .ok (.int (i + j)) μ := of_eq_true (eq_self _)
@[simp] theorem add_str (x y : Str) (μ : Mu) : addD (.str x) (.str y) μ = if x.length + y.length ≤ 1000000 then .ok (.str (x ++ y)) μ else .bad := of_eq_true (eq_self _)
@[simp] theorem add_lst (x y : List D) (μ : Mu) : addD (.lst x) (.lst y) μ = if x.length + y.length ≤ 1000000 then .ok (.lst (x ++ y)) μ else .bad := of_eq_true (eq_self _)
@[simp] theorem mul_int (i j : Int) (μ : Mu) : mulD (.int i) (.int j) μ = if (-(2 ^ 64) < i ∧ i < 2 ^ 64) ∨ (-(2 ^ 64) < j ∧ j < 2 ^ 64) then .ok (.int (i * j)) μ else .bad := of_eq_true (eq_self _)
@[simp] theorem mod_int (i j : Int) (μ : Mu) : modD (.int i) (.int j) μ = if 0 < j then .ok (.int (i % j)) μ else .bad := of_eq_true (eq_self _)
@[simp] theorem fdiv_int (i j : Int) (μ : Mu) : fdivD (.int i) (.int j) μ = if 0 < j ∧ j < 1073741824 then .ok (.int (i / j)) μ else .bad := of_eq_true (eq_self _)
@[simp] theorem pow_int (i j : Int) (μ : Mu) : powD (.int i) (.int j) μ = if 0 ≤ j ∧ j ≤ 1000000 ∧ i.natAbs < 2 ^ 64 then .ok (.int (i ^ j.toNat)) μ else .bad := of_eq_true (eq_self _)
@[simp] theorem lt_int (i j : Int) (μ : Mu) : ltD (.int i) (.int j) μ = .ok (.bl (decide (i < j))) μ := of_eq_true (eq_self _)
@[simp] theorem le_int (i j : Int) (μ : Mu) : leD (.int i) (.int j) μ = .ok (.bl (decide (i ≤ j))) μ := of_eq_true (eq_self _)
@[simp] theorem gt_int (i j : Int) (μ : Mu) : gtD (.int i) (.int j) μ = .ok (.bl (decide (j < i))) μ := of_eq_true (eq_self _)
@[simp] theorem ge_int (i j : Int) (μ : Mu) : geD (.int i) (.int j) μ = .ok (.bl (decide (j ≤ i))) μ := of_eq_true (eq_self _)
@[simp] theorem lt_str (x y : Str) (μ : Mu) : ltD (.str x) (.str y) μ = .ok (.bl (strLt x y)) μ := of_eq_true (eq_self _)
@[simp] theorem le_str (x y : Str) (μ : Mu) : leD (.str x) (.str y) μ = .ok (.bl (!strLt y x)) μ := of_eq_true (eq_self _)
@[simp] theorem is_non (x : D) (μ : Mu) : isD x .non μ = match isNoneD x with | some b => .ok (.bl b) μ | none => .bad := of_eq_true (eq_self _)
@[simp] theorem isnt_non (x : D) (μ : Mu) : isntD x .non μ = match isNoneD x with | some b => .ok (.bl (!b)) μ | none => .bad := of_eq_true (eq_self _)
@[simp] theorem isNone_non : isNoneD .non = some true := of_eq_true (eq_self _)
@[simp] theorem isNone_int (i : Int) : isNoneD (.int i) = some false := of_eq_true (eq_self _)
@[simp] theorem isNone_bl (i : Bool) : isNoneD (.bl i) = some false := of_eq_true (eq_self _)
@[simp] theorem isNone_str (i : Str) : isNoneD (.str i) = some false := of_eq_true (eq_self _)
@[simp] theorem isNone_tup (i : List D) : isNoneD (.tup i) = some false := of_eq_true (eq_self _)
@[simp] theorem isNone_lst (i : List D) : isNoneD (.lst i) = some false := of_eq_true (eq_self _)
@[simp] theorem abs_int (i : Int) (μ : Mu) : bAbs [.int i] μ = .ok (.int (if i < 0 then -i else i)) μ := of_eq_true (eq_self _)
@[simp] theorem append_hdl (l : Nat) (d : D) (μ : Mu) : mAppend (.hdl l) [d] μ = match μ[l]? with
  | some (.lst xs) => if xs.length < 1000000 then .ok .non (μ.set l (.lst (xs ++ [d]))) else .bad
  | _ => .bad := of_eq_true (eq_self _)
theorem for_nil (t : Tg) (b : FS) (ρ : En) (μ : Mu) : forD t b [] ρ μ = .nx ρ μ := by simp [forD]
def O.pass : O → (En → Mu → O) → O
 | .nx ρ μ, k => k ρ μ
 | .ct ρ μ, k => k ρ μ
 | .bk ρ μ, _ => .nx ρ μ
 | .rt d μ, _ => .rt d μ
 | .ex ρ c fs μ, _ => .ex ρ c fs μ
 | .bad, _ => .bad
@[simp] theorem O.pass_nx (ρ : En) (μ : Mu) (k : En → Mu → O) : (O.nx ρ μ).pass k = k ρ μ := of_eq_true (eq_self _)
@[simp] theorem O.pass_ct (ρ : En) (μ : Mu) (k : En → Mu → O) : (O.ct ρ μ).pass k = k ρ μ := of_eq_true (eq_self _)
@[simp] theorem O.pass_bk (ρ : En) (μ : Mu) (k : En → Mu → O) : (O.bk ρ μ).pass k = .nx ρ μ := of_eq_true (eq_self _)
@[simp] theorem O.pass_rt (d : D) (μ : Mu) (k : En → Mu → O) : (O.rt d μ).pass k = .rt d μ := of_eq_true (eq_self _)
@[simp] theorem O.pass_ex (ρ : En) (c : Nat) (fs : List (Str × D)) (μ : Mu) (k : En → Mu → O) : (O.ex ρ c fs μ).pass k = .ex ρ c fs μ := of_eq_true (eq_self _)
theorem for_cons (t : Tg) (b : FS) (x : D) (xs : List D) (ρ : En) (μ : Mu) : forD t b (x :: xs) ρ μ = match asg t x ρ with | none => .bad | some ρ1 => (b ρ1 μ).pass fun ρ2 μ2 => forD t b xs ρ2 μ2 := by
 rw [forD]
 cases asg t x ρ with
 | none => rfl
 | some ρ1 =>
  dsimp only
  cases b ρ1 μ <;> rfl
/-- .. by enumerate -/
theorem for_enum {t : Tg} {b : FS} (I : Nat → En → Mu → Prop) : ∀ {xs : List D} {k : Nat} {ρ : En} {μ : Mu}, (∀ (i : Nat) (x : D), xs[i]? = some x → ∀ ρ μ, I (k + i) ρ μ → ∃ ρ1 ρ2 μ2, asg t (.tup [.int (k + i : Nat), x]) ρ = some ρ1 ∧ b ρ1 μ = .nx ρ2 μ2 ∧ I (k + i + 1) ρ2 μ2) → I k ρ μ →
  ∃ ρ' μ', forD t b (enumD k xs) ρ μ = .nx ρ' μ' ∧ I (k + xs.length) ρ' μ'
 | [], k, ρ, μ, _, h => ⟨ρ, μ, by simp [enumD, for_nil], h⟩
 | x :: xs, k, ρ, μ, hb, h => by
  obtain ⟨ρ1, ρ2, μ2, e1, e2, i2⟩ := hb 0 x rfl ρ μ h
  obtain ⟨ρ', μ', e, i'⟩ := for_enum (xs := xs) (k := k + 1) I (fun i y hy ρ μ hi => by
   have := hb (i + 1) y (by simpa using hy) ρ μ (by rw [show k + (i + 1) = k + 1 + i by omega]; exact hi)
   rw [show k + (i + 1) = k + 1 + i by omega] at this
   exact this) i2
  refine ⟨ρ', μ', ?_, by rw [List.length_cons, show k + (xs.length + 1) = k + 1 + xs.length by omega]; exact i'⟩
  have e1' : asg t (.tup [.int k, x]) ρ = some ρ1 := e1
  rw [enumD, for_cons, e1']
  dsimp only
  rw [e2]
  exact e
theorem take_app {α : Type} (xs ys : List α) : (xs ++ ys).take xs.length = xs := by simp
theorem trunc_app {μ ex : Mu} {d : D} (hd : d.closed μ.length = true) (h : closedMu μ.length μ = true) : trunc μ.length d (μ ++ ex) = .ok d μ := by
 unfold trunc closedMu
 rw [take_app, hd]
 unfold closedMu at h
 rw [List.take_length] at h
 rw [h]
 rfl
@[simp] theorem callF_eq (n : Nat) (g : FS) (ds : List D) (μ : Mu) (d : D) (μ1 : Mu) (h : g (startD n ds) μ = .rt d μ1) : callF n g ds μ = trunc μ.length d μ1 := by
 unfold callF
 rw [h]
end DL
/-! DL13: the laws' own digits. -/
namespace DL
open PySem L2
theorem closed_ints (n : Nat) : ∀ ns : List Int, D.closedL n (ns.map .int) = true
 | [] => by simp [D.closedL]
 | a :: ns => by simp [D.closedL, D.closed, closed_ints n ns]
theorem app_at {α : Type} {xs : List α} {y n : α} {i : Nat} (h : (xs ++ [y])[i]? = some n) : xs[i]? = some n ∨ (i = xs.length ∧ n = y) := by
 rcases Nat.lt_or_ge i xs.length with l | l
 ·rw [List.getElem?_append_left l] at h
  exact .inl h
 ·rw [List.getElem?_append_right l] at h
  rcases Nat.eq_zero_or_pos (i - xs.length) with z | z
  ·rw [z] at h
   simp at h
   exact .inr ⟨by omega, h.symm⟩
  ·rw [List.getElem?_eq_none (by show [y].length ≤ _; simp; omega)] at h
   cases h
theorem app_set {α : Type} (xs : List α) (x y : α) : (xs ++ [x]).set xs.length y = xs ++ [y] := by simp
end DL
/-! DL14: == and repr of flat things. -/
namespace DL
open PySem L2
@[simp] theorem eq_ints (a b : Int) (μ : Mu) : dEq (.int a) (.int b) μ = .ok (.bl (decide (a = b))) μ := by
 simp [dEq, eqD, D.kd, eqV]
 by_cases h : a = b <;> simp [h]
@[simp] theorem eq_strs (a b : Str) (μ : Mu) : dEq (.str a) (.str b) μ = .ok (.bl (decide (a = b))) μ := by
 simp [dEq, eqD, D.kd, eqV]
 by_cases h : a = b <;> simp [h]
@[simp] theorem eq_non (μ : Mu) : dEq .non .non μ = .ok (.bl true) μ := by simp [dEq, eqD, D.kd, eqV]
@[simp] theorem eq_non_int (a : Int) (μ : Mu) : dEq .non (.int a) μ = .ok (.bl false) μ := by simp [dEq, eqD, D.kd, eqV]
@[simp] theorem eq_int_non (a : Int) (μ : Mu) : dEq (.int a) .non μ = .ok (.bl false) μ := by simp [dEq, eqD, D.kd, eqV]
@[simp] theorem eq_non_str (a : Str) (μ : Mu) : dEq .non (.str a) μ = .ok (.bl false) μ := by simp [dEq, eqD, D.kd, eqV]
@[simp] theorem eq_str_non (a : Str) (μ : Mu) : dEq (.str a) .non μ = .ok (.bl false) μ := by simp [dEq, eqD, D.kd, eqV]
@[simp] theorem ne_strs (a b : Str) (μ : Mu) : dNe (.str a) (.str b) μ = .ok (.bl (!decide (a = b))) μ := by
 simp [dNe, D.kd, scal]
theorem lt_log {i : Int} (h : i.natAbs < 10 ^ 12) : i.natAbs.log2 < 1920 := by
 rcases Nat.eq_zero_or_pos i.natAbs with z | z
 ·rw [z]; decide
 ·exact (Nat.log2_lt (by omega)).mpr (Nat.lt_trans h (by decide))
/-- a short thing's text -/
theorem repr_short {d : D} {p : PyData} (h : d.py = some p) (h1 : p.leavesShort 13 = true) (h2 : p.showable = true) (h3 : p.hasDict = false) (h4 : p.depth ≤ 40) (h5 : p.bulk ≤ 60000) : reprD d = some p.shown := by
 have := PyData.shown_le_bulk 13 (by decide) p h1
 unfold reprD
 rw [h]
 dsimp only
 rw [if_pos ⟨h2, h3, h4, by omega⟩]
end DL
/-! DL16: comprehensions reckoned, closed cells, the laws' own draws. -/
namespace DL
open PySem L2
/-- cells without handles -/
def AllC (μ : Mu) : Prop := ∀ m ∈ μ, ∀ n, m.closed n = true
theorem AllC.mu {μ : Mu} (h : AllC μ) (n : Nat) : closedMu n μ = true := by
 unfold closedMu
 rw [List.all_eq_true]
 exact fun m hm => h m (List.mem_of_mem_take hm) n
theorem AllC.app {μ ex : Mu} (h : AllC μ) (h2 : AllC ex) : AllC (μ ++ ex) := fun m hm n => by
 rcases List.mem_append.mp hm with z | z
 ·exact h m z n
 ·exact h2 m z n
theorem AllC.set {μ : Mu} (h : AllC μ) (l : Nat) {m : MO} (hm : ∀ n, m.closed n = true) : AllC (μ.set l m) := fun k hk n => by
 rcases List.mem_or_eq_of_mem_set hk with z | z
 ·exact h k z n
 ·rw [z]; exact hm n
@[simp] theorem lc_nil (t : Tg) (ft : FT) (fe : FE) (ρ : En) (μ : Mu) : lcD t ft fe ρ [] μ = .ok [] μ := by simp [lcD]
/-- a comprehension without effects -/
theorem lc_pure {t : Tg} {ft : FT} {fe : FE} {ρ : En} {μ : Mu} (g : D → En) (p : D → Bool) (f : D → D) : ∀ {xs : List D}, (∀ x ∈ xs, asg t x ρ = some (g x) ∧ ft (g x) μ = .ok (p x) μ ∧ (p x = true → fe (g x) μ = .ok (f x) μ)) → lcD t ft fe ρ xs μ = .ok ((xs.filter p).map f) μ
 | [], _ => by simp
 | x :: xs, h => by
  obtain ⟨h1, h2, h3⟩ := h x (by simp)
  have ih := lc_pure g p f (xs := xs) fun y hy => h y (List.mem_cons_of_mem _ hy)
  rw [lcD, h1]
  dsimp only
  rw [h2]
  cases hp : p x with
  | true => simp [hp, h3 hp, ih]
  | false => simp [hp, ih]
@[simp] theorem ap_dand (f g : FE) (ρ : En) (μ : Mu) : dand f g ρ μ = (f ρ μ).bind fun d μ1 => match d with | .bl true => g ρ μ1 | .bl false => .ok (.bl false) μ1 | _ => .bad := of_eq_true (eq_self _)
@[simp] theorem ap_dnot (f : FE) (ρ : En) (μ : Mu) : dnot f ρ μ = (f ρ μ).bind fun d μ1 => match d with | .bl b => .ok (.bl (!b)) μ1 | _ => .bad := of_eq_true (eq_self _)
@[simp] theorem ap_dneg (f : FE) (ρ : En) (μ : Mu) : dneg f ρ μ = (f ρ μ).bind fun d μ1 => match d with | .int i => .ok (.int (-i)) μ1 | _ => .bad := of_eq_true (eq_self _)
@[simp] theorem ap_chain (g1 g2 : D → D → Mu → R D) (fa fb fc : FE) (ρ : En) (μ : Mu) : dchain g1 g2 fa fb fc ρ μ = (fa ρ μ).bind fun x μ1 => (fb ρ μ1).bind fun y μ2 => (g1 x y μ2).bind fun z μ3 => match z with
 | .bl true => (fc ρ μ3).bind fun w μ4 => g2 y w μ4
 | .bl false => .ok (.bl false) μ3
 | _ => .bad := of_eq_true (eq_self _)
@[simp] theorem isi_ap (d : D) (T : String) (μ : Mu) : bIsi [d, .cst (.ty T)] μ = match tyName μ d with
  | some t => match kitB t T with
   | some b => .ok (.bl b) μ
   | none => .bad
  | none => .bad := of_eq_true (eq_self _)
@[simp] theorem tn_non (μ : Mu) : tyName μ .non = some "NoneType" := of_eq_true (eq_self _)
@[simp] theorem tn_bl (μ : Mu) (b : Bool) : tyName μ (.bl b) = some "bool" := of_eq_true (eq_self _)
@[simp] theorem tn_int (μ : Mu) (b : Int) : tyName μ (.int b) = some "int" := of_eq_true (eq_self _)
@[simp] theorem tn_str (μ : Mu) (b : Str) : tyName μ (.str b) = some "str" := of_eq_true (eq_self _)
@[simp] theorem tn_tup (μ : Mu) (b : List D) : tyName μ (.tup b) = some "tuple" := of_eq_true (eq_self _)
@[simp] theorem tn_lst (μ : Mu) (b : List D) : tyName μ (.lst b) = some "list" := of_eq_true (eq_self _)
@[simp] theorem k_non_str : kitB "NoneType" "str" = some false := by decide +kernel
@[simp] theorem k_bool_str : kitB "bool" "str" = some false := by decide +kernel
@[simp] theorem k_int_str : kitB "int" "str" = some false := by decide +kernel
@[simp] theorem k_str_str : kitB "str" "str" = some true := by decide +kernel
@[simp] theorem k_tup_str : kitB "tuple" "str" = some false := by decide +kernel
@[simp] theorem k_lst_str : kitB "list" "str" = some false := by decide +kernel
@[simp] theorem k_dict_str : kitB "dict" "str" = some false := by decide +kernel
@[simp] theorem ix_lst (xs : List D) (k : Int) (μ : Mu) : dIx (.lst xs) (.int k) μ = R.of (atI xs k) μ := of_eq_true (eq_self _)
@[simp] theorem ix_tup (xs : List D) (k : Int) (μ : Mu) : dIx (.tup xs) (.int k) μ = R.of (atI xs k) μ := of_eq_true (eq_self _)
@[simp] theorem at0 (x : D) (xs : List D) : atI (x :: xs) 0 = some x := by
 simp [atI, ixN]
@[simp] theorem at1 (x y : D) (xs : List D) : atI (x :: y :: xs) 1 = some y := by
 unfold atI ixN
 rw [if_pos (by decide), if_pos (by simp; omega)]
 rfl
/-- a pool lies at l -/
structure Pool (μ : Mu) (l : Nat) : Prop where
 ex : ∃ a b : Int, μ[l]? = some (.lst [.int a, .int b]) ∧ 0 ≤ b ∧ b < 2147483648
 cl : AllC μ
end DL
/-! DL17: instances of own classes: attributes, methods, making. What is never reached. -/
namespace DL
open PySem L2
/-! ### what is never reached -/
def gbad : FS := fun _ _ => .bad
def dbad : FE := fun _ _ => .bad
theorem ds_bad {X : Cx} {E : WX} {st : Stmt} : DS X E st gbad := ⟨fun pins s σ H D I h => by
 obtain ⟨W, ρ, μ, ok, en, p⟩ := h
 exact p.elim⟩
theorem de_bad {X : Cx} {E : WX} {e : Expr} : DE X E e dbad := ⟨fun pins s σ H D I h => by
 obtain ⟨W, ρ, μ, ok, en, p⟩ := h
 exact p.elim⟩
@[simp] theorem ap_gbad (ρ : En) (μ : Mu) : gbad ρ μ = .bad := of_eq_true (eq_self _)
@[simp] theorem ap_dbad (ρ : En) (μ : Mu) : dbad ρ μ = .bad := of_eq_true (eq_self _)
@[simp] theorem O.thn_bad (h : FS) : O.bad.thn h = .bad := of_eq_true (eq_self _)
/-! ### attributes -/
def putP {α : Type} (f : Str) (x : α) : List Str → List α → List Str × List α
 | g :: ns, y :: ys => if g = f then (g :: ns, x :: ys) else (g :: (putP f x ns ys).1, y :: (putP f x ns ys).2)
 | _, _ => ([f], [x])
theorem putP_zip (f : Str) (v : V) : ∀ {ns : List Str} {vs : List V}, ns.length = vs.length → putF f v (ns.zip vs) = (putP f v ns vs).1.zip (putP f v ns vs).2
 | [], [], _ => rfl
 | [], _ :: _, h => by cases h
 | _ :: _, [], h => by cases h
 | g :: ns, y :: ys, h => by
  simp only [List.zip_cons_cons, putF, putP]
  by_cases e : g = f
  ·simp [e]
  ·simp [e, putP_zip f v (ns := ns) (vs := ys) (by simpa using h)]
theorem putP_len {α : Type} (f : Str) (v : α) : ∀ {ns : List Str} {vs : List α}, ns.length = vs.length → (putP f v ns vs).1.length = (putP f v ns vs).2.length
 | [], [], _ => rfl
 | [], _ :: _, h => by cases h
 | _ :: _, [], h => by cases h
 | g :: ns, y :: ys, h => by
  simp only [putP]
  by_cases e : g = f
  ·simpa [e] using h
  ·simp [e, putP_len f v (ns := ns) (vs := ys) (by simpa using h)]
theorem putP_names {α β : Type} (f : Str) (v : α) (d : β) : ∀ {ns : List Str} {vs : List α} {ds : List β}, ns.length = vs.length → ns.length = ds.length → (putP f v ns vs).1 = (putP f d ns ds).1
 | [], [], [], _, _ => rfl
 | [], _ :: _, _, h, _ => by cases h
 | [], [], _ :: _, _, h => by cases h
 | _ :: _, [], _, h, _ => by cases h
 | _ :: _, _ :: _, [], _, h => by cases h
 | g :: ns, y :: ys, z :: zs, h, h2 => by
  simp only [putP]
  by_cases e : g = f
  ·simp [e]
  ·simp [e, putP_names f v d (ns := ns) (vs := ys) (ds := zs) (by simpa using h) (by simpa using h2)]
theorem putP_reps {K : PySem.W.Frag} {W : Wd} (f : Str) {v : V} {d : D} (r : Rep K W v d) : ∀ {ns : List Str} {vs : List V} {ds : List D}, ns.length = vs.length → Reps K W vs ds → Reps K W (putP f v ns vs).2 (putP f d ns ds).2
 | [], [], [], _, _ => .cons r .nil
 | [], _ :: _, _, h, _ => by cases h
 | _ :: _, [], _, h, _ => by cases h
 | g :: ns, y :: ys, z :: zs, h, .cons r1 r2 => by
  simp only [putP]
  by_cases e : g = f
  ·simp only [if_pos e]
   exact .cons r r2
  ·simp only [if_neg e]
   exact .cons r1 (putP_reps f r (by simpa using h) r2)
theorem lookup_rep {K : PySem.W.Frag} {W : Wd} {f : Str} {d : D} : ∀ {ns : List Str} {vs : List V} {ds : List D}, Reps K W vs ds → (ns.zip ds).lookup f = some d → ∃ v, (ns.zip vs).lookup f = some v ∧ Rep K W v d
 | [], _, _, _, h => by cases h
 | _ :: _, _, _, .nil, h => by cases h
 | g :: ns, _, _, .cons (v := v) (vs := vs) (d := e) (ds := ds) r rs, h => by
  simp only [List.zip_cons_cons, List.lookup] at h ⊢
  cases hb : (f == g) with
  | true =>
   rw [hb] at h
   cases h
   exact ⟨v, rfl, r⟩
  | false =>
   rw [hb] at h
   exact lookup_rep rs h
theorem lookup_none {K : PySem.W.Frag} {W : Wd} {f : Str} : ∀ {ns : List Str} {vs : List V} {ds : List D}, Reps K W vs ds → (ns.zip ds).lookup f = none → (ns.zip vs).lookup f = none
 | [], _, _, _, _ => rfl
 | _ :: _, _, _, .nil, _ => rfl
 | g :: ns, _, _, .cons (v := v) (vs := vs) (d := e) (ds := ds) r rs, h => by
  simp only [List.zip_cons_cons, List.lookup] at h ⊢
  cases hb : (f == g) with
  | true => rw [hb] at h; cases h
  | false =>
   rw [hb] at h
   exact lookup_none rs h
/-- an instance: its class and its attributes -/
def insD (μ : Mu) : D → Option (Nat × List (Str × D))
 | .obj C fs => some (C, fs)
 | .hdl l => match μ[l]? with
  | some (.ins C ns xs) => some (C, ns.zip xs)
  | _ => none
 | _ => none
theorem ins_rep {K : PySem.W.Frag} {W : Wd} {H : Hp} {μ : Mu} {v : V} {d : D} {C : Nat} {fs : List (Str × D)} (ok : Ok K W H μ) (r : Rep K W v d) (h : insD μ d = some (C, fs)) :
  ∃ (a dx : Addr) (ns : List Str) (vs : List V) (ds : List D), v = .ref a ∧ H a = some (.ins (cl K C) dx (ns.zip vs)) ∧ fs = ns.zip ds ∧ Reps K W vs ds := by
 cases r with
 | obj h1 e rs =>
  simp [insD] at h
  obtain ⟨rfl, rfl⟩ := h
  exact ⟨_, _, _, _, _, rfl, ok.sub _ _ h1, rfl, rs⟩
 | @hdl a l ha =>
  unfold insD at h
  dsimp only at h
  cases hm : μ[l]? with
  | none => rw [hm] at h; cases h
  | some m =>
   rw [hm] at h
   cases m with
   | ins C' ns xs =>
    cases h
    obtain ⟨o, ho, dx, vs, rfl, hl, rs⟩ := ok.cell l a _ ha hm
    exact ⟨_, _, _, _, _, rfl, ho, rfl, rs⟩
   | _ => cases h
 | _ => simp [insD] at h
def atD (cs : List Nat) (f : Str) (μ : Mu) (d : D) : Option D := match insD μ d with
 | some (C, fs) => if C ∈ cs then fs.lookup f else none
 | none => none
def dat (cs : List Nat) (f : Str) (fo : FE) : FE := fun ρ μ => (fo ρ μ).bind fun d μ1 => R.of (atD cs f μ1 d) μ1
@[simp] theorem ap_at (cs : List Nat) (f : Str) (fo : FE) (ρ : En) (μ : Mu) : dat cs f fo ρ μ = (fo ρ μ).bind fun d μ1 => R.of (atD cs f μ1 d) μ1 := of_eq_true (eq_self _)
section
variable {X : Cx} {E : WX} {e o : Expr} {fe fo : FE} {f : Str} {pos pos' : Pos} {cs : List Nat}
theorem de_at (hc : ∀ C ∈ cs, Cls X.K (cl X.K C) ∧ NoAttr X.K (cl X.K C) f) (he : DE X E e fe) (hb : attributeBase e f X.env (eval e X.env) = eval e X.env := by rfl) : DE X E (.Attribute e f pos) (dat cs f fe) := by
 refine pe_imp (pe_fld he hb) fun σ H Q ⟨W, ρ, μ, ok, en, p⟩ => ?_
 refine seq p ok en fun d μ1 W1 v H1 g1 o1 en1 r p1 => ?_
 unfold atD at p1
 cases hi : insD μ1 d with
 | none => rw [hi] at p1; exact p1.elim
 | some q =>
  obtain ⟨C, fs⟩ := q
  rw [hi] at p1
  dsimp only at p1
  by_cases hC : C ∈ cs
  ·rw [if_pos hC] at p1
   cases hl : fs.lookup f with
   | none => rw [hl] at p1; exact p1.elim
   | some x =>
    rw [hl] at p1
    obtain ⟨a, dx, ns, vs, ds, rfl, ha, rfl, rs⟩ := ins_rep o1 r hi
    obtain ⟨w, hw, rw1⟩ := lookup_rep rs hl
    exact ⟨a, _, dx, _, w, rfl, ha, (hc C hC).1, (hc C hC).2, hw, post_pure o1 p1 rw1⟩
  ·rw [if_neg hC] at p1
   exact p1.elim
/-- o.f = e on an instance that is a cell -/
def gsetat (cs : List Nat) (f : Str) (fo fe : FE) : FS := fun ρ μ => (fe ρ μ).to ρ fun d μ1 => (fo ρ μ1).to ρ fun x μ2 => match x with
 | .hdl l => match μ2[l]? with
  | some (.ins C ns xs) => if C ∈ cs ∧ ns.length < 900 ∧ ns.length = xs.length then .nx ρ (μ2.set l (.ins C (putP f d ns xs).1 (putP f d ns xs).2)) else .bad
  | _ => .bad
 | _ => .bad
theorem ds_setat (hc : ∀ C ∈ cs, Cls X.K (cl X.K C) ∧ NoAttr X.K (cl X.K C) f) (he : DE X E e fe) (ho : DE X E o fo) (hs : swapsWith e (some (.Attribute o f pos')) pos.line X.env = pure false := by rfl) : DS X E (.Assign [.Attribute o f pos'] e pos) (gsetat cs f fo fe) := by
 refine ps_imp (ps_fld ho he hs) fun Z σ H ⟨W, ρ, μ, ok, en, p⟩ => ?_
 refine seqS p ok en fun d μ1 W1 v H1 g1 o1 en1 r p1 => ?_
 refine seqS p1 o1 en1 fun x μ2 W2 xv H2 g2 o2 en2 r2 p2 => ?_
 split at p2
 ·rename_i l
  split at p2
  ·rename_i C ns xs hm
   split at p2
   ·rename_i hq
    obtain ⟨hC, hn, hl⟩ := hq
    cases r2 with
    | @hdl a _ ha =>
     obtain ⟨ob, hob, dx, vs, rfl, hlv, rs⟩ := o2.cell l a _ ha hm
     obtain ⟨ok4, g4⟩ := o2.setcell (m' := .ins C (putP f d ns xs).1 (putP f d ns xs).2) (o' := .ins (cl X.K C) dx (putF f v (ns.zip vs))) ha hm (fun z => nomatch z) ⟨dx, (putP f v ns vs).2, by rw [putP_zip f v hlv, putP_names f v d hlv hl], by rw [← putP_names f v d hlv hl]; exact putP_len f v hlv, putP_reps f (r.mono g2.le) hlv rs⟩
     refine ⟨a, _, dx, _, rfl, hob, (hc C hC).1, (hc C hC).2, ?_, p2 _ _ _ g4 ok4 en2⟩
     rw [List.length_zip]
     omega
   ·exact p2.elim
  ·exact p2.elim
 ·exact p2.elim
end
/-! ### methods -/
/-- o.m(..) of the class C, m no attribute of its own -/
def dmeth (C : Nat) (m : Str) (F : List D → Mu → R D) (dd : List D) (fo : FE) (fa : FA) : FE := fun ρ μ => (fo ρ μ).bind fun o μ1 => match insD μ1 o with
 | some (C', fs) => if C' = C ∧ (fs.lookup m).isNone = true then (fa ρ μ1).bind fun ds μ2 => F ((o :: ds) ++ dd) μ2 else .bad
 | none => .bad
@[simp] theorem ap_meth (C : Nat) (m : Str) (F : List D → Mu → R D) (dd : List D) (fo : FE) (fa : FA) (ρ : En) (μ : Mu) : dmeth C m F dd fo fa ρ μ = (fo ρ μ).bind fun o μ1 => match insD μ1 o with
 | some (C', fs) => if C' = C ∧ (fs.lookup m).isNone = true then (fa ρ μ1).bind fun ds μ2 => F ((o :: ds) ++ dd) μ2 else .bad
 | none => .bad := of_eq_true (eq_self _)
section
variable {X : Cx} {E : WX} {k C : Nat} {f : Addr} {fd : FuncData} {ps : List Str} {F : List D → Mu → R D} {dd : List D} {m : Str} {p pos apos : Pos} {o e : Expr} {es : List Expr} {fo : FE} {fa : FA}
theorem de_meth0 {pl : Sem Bool} (G : FnG X.prog X.w X.K X.mg X.base k f fd ps F) (c : Cal X E k) (hC : Cls X.K (cl X.K C)) (hm : Meth X.K (cl X.K C) m f) (b : Dfl X.K fd ps 1 dd) (ho : DE X E o fo)
  (ht : eval (.Call (.Attribute o m apos) [] [] pos) X.env = (do
   let ov ← eval o X.env
   standAt apos.atName
   let (f, first) ← holding [ov] (getMethod ov m pl)
   callWith pos f first (backTo pos (starEach [] X.env)) (backToKw pos (keywordEach [] X.env))) := by rfl) :
  DE X E (.Call (.Attribute o m apos) [] [] pos) (dmeth C m F dd fo aNil) := by
 refine ⟨fun pins s σ H Q I q => ?_⟩
 obtain ⟨W, ρ, μ, ok, en, pq⟩ := q
 unfold dmeth at pq
 have rd : rE X.K E fo σ H (fun x H1 => ∃ W1 d μ1 a dx fs, x = .ref a ∧ H1 a = some (.ins (cl X.K C) dx fs) ∧ fs.lookup m = none ∧ Ok X.K W1 H1 μ1 ∧ Rep X.K W1 x d ∧ postE X.K (WE E σ) W1 H1 (F ([d] ++ dd) μ1) Q) := by
  refine seq pq ok en fun d μ1 W1 v H1 g1 o1 en1 r p1 => ?_
  cases hi : insD μ1 d with
  | none => rw [hi] at p1; exact p1.elim
  | some z =>
   obtain ⟨C', fs⟩ := z
   rw [hi] at p1
   dsimp only at p1
   by_cases hq : C' = C ∧ (fs.lookup m).isNone = true
   ·rw [if_pos hq] at p1
    obtain ⟨rfl, hn⟩ := hq
    obtain ⟨a, dx, ns, vs, ds, rfl, ha, rfl, rs⟩ := ins_rep o1 r hi
    unfold aNil at p1
    rw [R.bind_ok] at p1
    exact ⟨W1, d, μ1, a, dx, _, rfl, ha, lookup_none rs (Option.isNone_iff_eq_none.mp hn), o1, r, p1⟩
   ·rw [if_neg hq] at p1
    exact p1.elim
 refine PySem.W.methodCall_KW (pl := pl) (thn (ho.run pins s σ H _ I rd) fun u s1 ⟨x, H1, I1, rx, W1, d, μ1, a, dx, fs, ex, ea, l, o1, r1, q1⟩ => ?_) ht
 subst ex
 obtain rfl : u = Value.ref a := rx
 refine getmeth_ok I1 ea hC hm l ?_
 exact PySem.W.callWith_K0 (first := [.ref a]) I1.kIn hm.kp (callF_args (us := [.ref a]) (vs := [.ref a]) (n := 1) G c b I1 rfl (.cons rfl .nil) o1 (.cons r1 .nil) q1)
end
/-- .. that never changes any more -/
def makeO (C : Nat) (F : List D → Mu → R D) (g : D → List D) (μ : Mu) : R D := match F (g (.hdl μ.length)) (μ ++ [.ins C [] []]) with
 | .ok .non μ1 => match μ1[μ.length]? with
  | some (.ins C' ns xs) => trunc μ.length (.obj C' (ns.zip xs)) (μ1.set μ.length .gone)
  | _ => .bad
 | .ex c fs μ1 => truncX μ.length c fs μ1
 | _ => .bad
end DL
/-! DL18: an instance made by a call of its class. -/
namespace DL
open PySem L2
section
variable {K : PySem.W.Frag} {W : Wd} {H : Hp} {μ : Mu} {x dx : Addr} {C : Nat}
theorem born_ok (ok : Ok K W H μ) (h1 : H x = none) (h2 : H dx = none) (hne : dx ≠ x) : Ok K (W.cell x) (upd (upd H dx (.own x)) x (.ins (cl K C) dx [])) (μ ++ [.ins C [] []]) ∧ Go W H (W.cell x) (upd (upd H dx (.own x)) x (.ins (cl K C) dx [])) := by
 have ok1 : Ok K W (upd H dx (.own x)) μ := ok.other (ok.snone h2) (ok.notio h2) (.inl h2)
 have hx : upd H dx (.own x) x = none := by rw [upd_ne (fun z => hne z.symm)]; exact h1
 exact ⟨ok1.newcell hx ⟨dx, [], rfl, rfl, .nil⟩, ((Go.refl W H).other h2).trans (Go.cell ok1 hx)⟩
theorem cell_last (ok : Ok K W H μ) {W' : Wd} (l : Le (W.cell x) W') : W'.io[μ.length]? = some x := prefix_get l.io (by
 show (W.io ++ [x])[μ.length]? = some x
 rw [← ok.len]
 simp)
end
section
variable {X : Cx} {E : WX} {k C : Nat} {f : Addr} {fd : FuncData} {ps : List Str} {F : List D → Mu → R D}
/-- what the call of the class must give for what its __init__ gives -/
def MkQ (K : PySem.W.Frag) (E : WX) (C : Nat) (F : List D → Mu → R D) (g : D → List D) (r : Mu → R D) : Prop := ∀ (E' : XK) (W : Wd) (H : Hp) (μ : Mu) (x dx : Addr) (Q : VK), Ok K W H μ → H x = none → H dx = none → dx ≠ x → postE K E' W H (r μ) Q →
 postE K E' (W.cell x) (upd (upd H dx (.own x)) x (.ins (cl K C) dx [])) (F (g (.hdl μ.length)) (μ ++ [.ins C [] []])) (fun v H3 => v = .non ∧ Q (.ref x) H3)
theorem mkq_O {K : PySem.W.Frag} {g : D → List D} : MkQ K E C F g (makeO C F g) := by
 intro E' W H μ x dx Q ok h1 h2 hne p
 obtain ⟨ok1, g1⟩ := born_ok (C := C) ok h1 h2 hne
 unfold makeO at p
 revert p
 cases F (g (.hdl μ.length)) (μ ++ [.ins C [] []]) with
 | ok d μ2 =>
  intro p W' v H' g2 o2 r2
  cases r2 with
  | non =>
   dsimp only at p
   cases hm : μ2[μ.length]? with
   | none => rw [hm] at p; exact p.elim
   | some m =>
    rw [hm] at p
    cases m with
    | ins C' ns xs =>
     have hio := cell_last ok g2.le
     obtain ⟨o, ho, dx', vs, rfl, hl, rs⟩ := o2.cell _ _ _ hio hm
     obtain ⟨ok3, g3⟩ := o2.freeze hio hm (fun z => nomatch z) ho
     refine ⟨rfl, trunc_post ok.len p ((g1.trans g2).trans g3) ok3 (.obj (dx := dx') (vs := vs) ?_ hl (rs.mono g3.le))⟩
     show upd W'.S x _ x = _
     exact upd_same
    | _ => exact p.elim
  | _ => exact p.elim
 | ex c fs μ2 => exact fun p W' H' d g2 o2 r2 => truncX_post ok.len p (g1.trans g2) o2 r2
 | bad => exact fun p => p
/-- the call itself; uz, vz: what comes to the parameters for self -/
theorem run_born {pins : List (Addr × Obj)} {σ : St} {H : Hp} {s : Shared} {Q : VK} {us : List Value} {kw : List (Str × Value)} {W : Wd} {μ : Mu} {g : D → List D} {r : Mu → R D} (M : Mk X.K (cl X.K C) f) (G : FnG X.prog X.w X.K X.mg X.base k f fd ps F) (c : Cal X E (k + 1))
  (I : Inv X pins σ H s) (uz : Value → List Value) (vz : V → List V) (hl : ∀ u, (uz u).length = ps.length) (hb : ∀ (s' : Shared) (a : Addr), X.K.In s'.heap → BindsTo s' fd ⟨.ref a :: us, kw⟩ (ps.zip (uz (.ref a)))) (rv : ∀ a : Addr, Vals (vz (.ref a)) (uz (.ref a)))
  (ok : Ok X.K W H μ) (rp : ∀ (W' : Wd) (a : Addr), Le W W' → Rep X.K W' (.ref a) (.hdl μ.length) → Reps X.K W' (vz (.ref a)) (g (.hdl μ.length))) (mk : MkQ X.K E C F g r) (q : postE X.K (WE E σ) W H (r μ) Q) :
  wpAny (model X.prog X.w) X.A (call (.ref (cl X.K C)) us kw) (EP X pins σ Q) X.xe s := by
 have n1 := I.hok.fresh (Nat.le_succ s.heap.objs.size)
 have n2 := I.hok.fresh (Nat.le_refl s.heap.objs.size)
 have ne : s.heap.objs.size ≠ s.heap.objs.size + 1 := Nat.ne_of_lt (Nat.lt_succ_self _)
 have hq := mk (WE E σ) W H μ (s.heap.objs.size + 1) s.heap.objs.size Q ok n1 n2 ne q
 obtain ⟨ok1, g1⟩ := born_ok (C := C) ok n1 n2 ne
 have I2 := Inv.made (C := cl X.K C) I
 have gd : (X.A.under (.builtin "type.__call__" ⟨.ref (cl X.K C) :: us, kw⟩)).guards = some [] := by
  have e : Code.guards (.builtin "type.__call__" ⟨.ref (cl X.K C) :: us, kw⟩) = [] := by simp [Code.guards, Code.isGuard, guardIds]
  unfold Around.under
  dsimp only
  rw [e, c.guards]
  rfl
 refine wpAny_call (make_map (f := f) I.kIn M.makes M.init (beq_iff_eq.mp M.fn) (codeAny_mono (G.run _ X.stack _ _ ⟨Value.ref (s.heap.objs.size + 1) :: us, kw⟩ (uz (.ref (s.heap.objs.size + 1))) (vz (.ref (s.heap.objs.size + 1))) _ (WE E σ) _ _ _ (c.room.make (cl X.K C) us kw) gd
  (I2.env0.make (cl X.K C) us kw) (hl _) (hb _ _ I2.kIn) (rv _) ok1 (rp _ _ g1.le (.hdl (cell_last ok (Le.refl _)))) hq) fun z s' hq' => ?_))
 cases z with
 | error e => exact c.pass σ pins _ _ e s' I2 hq'
 | ok fl =>
  cases fl with
  | ret u =>
   obtain ⟨v, H', I3, rr, ev, q3⟩ := I2.after hq'
   subst ev
   exact ⟨rr, ⟨V.ref (s.heap.objs.size + 1), H', I3, rfl, q3⟩⟩
  | next => exact hq'.elim
  | brk => exact hq'.elim
  | cont => exact hq'.elim
end
def dmakeK (mk : (D → List D) → Mu → R D) (gD : List D → List D → List D) (fa fk : FA) : FE := fun ρ μ => (fa ρ μ).bind fun ds μ1 => (fk ρ μ1).bind fun es μ2 => mk (fun x => gD (x :: ds) es) μ2
@[simp] theorem ap_makeK (mk : (D → List D) → Mu → R D) (gD : List D → List D → List D) (fa fk : FA) (ρ : En) (μ : Mu) : dmakeK mk gD fa fk ρ μ = (fa ρ μ).bind fun ds μ1 => (fk ρ μ1).bind fun es μ2 => mk (fun x => gD (x :: ds) es) μ2 := of_eq_true (eq_self _)
section
variable {X : Cx} {E : WX} {k n C : Nat} {f : Addr} {fd : FuncData} {ps ks : List Str} {F : List D → Mu → R D} {dd : List D} {gD : List D → List D → List D} {x : Str} {p pos kpos : Pos} {e : Expr} {es : List Expr} {kws : List Keyword} {fa fk : FA} {mk : (D → List D) → Mu → R D}
theorem de_makeK (M : Mk X.K (cl X.K C) f) (G : FnG X.prog X.w X.K X.mg X.base k f fd ps F) (c : Cal X E (k + 1)) (hm : X.mg x = some (.ref (cl X.K C))) (b : KDfl X.K fd ps ((e :: es).length + 1) ks gD) (hk : ∀ g, MkQ X.K E C F g (mk g)) (ha : DA X E (e :: es) fa) (hkw : DK X E kws fk)
  (hf : HasLen fa (e :: es).length := by repeat (first | exact aNil_len | refine aCons_len ?_)) (hf2 : HasLen fk ks.length := by repeat (first | exact aNil_len | refine aCons_len ?_))
  (hall : (backToKw pos (keywordEach kws X.env)).all (·.1.isSome) = true := by rfl) (hks : (backToKw pos (keywordEach kws X.env)).filterMap (·.1) = ks := by rfl)
  (hg : Gl X x := by rfl) (hdb : (x == ("__debug__" : Str)) = false := by decide) (he : starEach (e :: es) X.env = (false, eval e X.env) :: starEach es X.env := by rfl)
  (hpl : (((backTo pos (starEach (e :: es) X.env)).any (·.1)) || (backToKw pos (keywordEach kws X.env)).any (·.1.isNone)) = false := by rfl) :
  DE X E (.Call (.Name x p) (e :: es) kws pos) (dmakeK mk gD fa fk) := by
 refine ⟨fun pins s σ H Q I q => ?_⟩
 obtain ⟨W, ρ, μ, ok, en, pq⟩ := q
 refine wpAny_Call_Name_kw (ld_glob I hg hm ?_ hdb)
 unfold dmakeK at pq
 have rd : rA X.K E fa σ H (fun vs H1 => ∃ W1 ds μ1, vs.length = (e :: es).length ∧ Ok X.K W1 H1 μ1 ∧ Envs X.K W1 σ ρ ∧ Reps X.K W1 vs ds ∧ postE X.K (WE E σ) W1 H1 ((fk ρ μ1).bind fun es μ2 => mk (fun x => gD (x :: ds) es) μ2) Q) := by
  refine ⟨W, ρ, μ, ok, en, ?_⟩
  revert pq
  cases hq : fa ρ μ with
  | ok ds μ1 => exact fun p W1 xs H1 g o r => ⟨W1, ds, μ1, by rw [r.length]; exact hf ρ μ ds μ1 hq, o, en.mono g.le, r, post.mono g p⟩
  | ex c fs μ1 => exact fun p => p
  | bad => exact fun p => p
 refine PySem.W.callWith_KW (h₀ := X.base) I.ok.mod.kin M.kp hall (thn (ha.run pos pins s σ H _ I rd) fun us s1 ⟨vs, H1, I1, r, W1, ds, μ1, hn, o1, en1, r1, q1⟩ => ?_) hpl he
 have rd2 : rA X.K E fk σ H1 (fun zs H2 => ∃ W2 es μ2, zs.length = ks.length ∧ Ok X.K W2 H2 μ2 ∧ Le W1 W2 ∧ Reps X.K W2 zs es ∧ postE X.K (WE E σ) W2 H2 (mk (fun x => gD (x :: ds) es) μ2) Q) := by
  refine ⟨W1, ρ, μ1, o1, en1, ?_⟩
  revert q1
  cases hq : fk ρ μ1 with
  | ok es μ2 => exact fun p W2 xs H2 g o r => ⟨W2, es, μ2, by rw [r.length]; exact hf2 ρ μ1 es μ2 hq, o, g.le, r, post.mono g p⟩
  | ex c fs μ1 => exact fun p => p
  | bad => exact fun p => p
 refine thn (hkw.run pos pins s1 σ H1 _ I1 rd2) fun ws s2 ⟨zs, H2, I2, rz, W2, es', μ2, hz, o2, l2, r2, q2⟩ => ⟨I2.kIn, ?_⟩
 rw [hks]
 obtain ⟨g, gV, hl, kb, rp⟩ := b.ex
 have hu : ∀ u : Value, (u :: us).length = (e :: es).length + 1 := fun u => by rw [List.length_cons, ← r.length, hn]
 have hv : ∀ v : V, (v :: vs).length = (e :: es).length + 1 := fun v => by rw [List.length_cons, hn]
 have hw : ws.length = ks.length := by rw [← rz.length]; exact hz
 exact run_born M G c I2 (fun u => g (u :: us) ws) (fun v => gV (v :: vs) zs) (fun u => hl _ _ (hu u) hw) (fun s' a kin => kb.to s' (.ref a :: us) ws kin (hu _) hw) (fun a => kb.rel (.cons rfl r) rz) o2 (fun W' a l ra => rp W' _ _ _ _ (hv _) hz (.cons ra ((r1.mono l2).mono l)) (r2.mono l)) (hk _) q2
end
end DL
/-! DL19: tuples and lists: + and *, tuple(..), list(..), sorted of texts. -/
namespace DL
open PySem L2 PySem.Spec PyProof.Rows
/-! ### + -/
def addX : D → D → Mu → R D := fun x y μ => match x, y with
 | .tup xs, .tup ys => if xs.length + ys.length ≤ 1000000 then .ok (.tup (xs ++ ys)) μ else .bad
 | x, y => addD x y μ
@[simp] theorem addX_int (i j : Int) (μ : Mu) : addX (.int i) (.int j) μ = .ok (.int (i + j)) μ := of_eq_true (eq_self _)
@[simp] theorem addX_str (x y : Str) (μ : Mu) : addX (.str x) (.str y) μ = if x.length + y.length ≤ 1000000 then .ok (.str (x ++ y)) μ else .bad := of_eq_true (eq_self _)
@[simp] theorem addX_lst (x y : List D) (μ : Mu) : addX (.lst x) (.lst y) μ = if x.length + y.length ≤ 1000000 then .ok (.lst (x ++ y)) μ else .bad := of_eq_true (eq_self _)
@[simp] theorem addX_tup (x y : List D) (μ : Mu) : addX (.tup x) (.tup y) μ = if x.length + y.length ≤ 1000000 then .ok (.tup (x ++ y)) μ else .bad := of_eq_true (eq_self _)
section
variable {X : Cx} {E : WX}
theorem nil_of {K : PySem.W.Frag} {W : Wd} {vs : List V} {ds : List D} (r : Reps K W vs ds) : vs = [] ↔ ds = [] := by
 cases r <;> simp
theorem opx_addX : OpX X E (binaryOp .Add) addX := by
 intro pins s σ H x y v u Q I rx ry q
 obtain ⟨E', W, μ, dx, dy, ok, r1, r2, p⟩ := q
 unfold addX at p
 split at p
 ·rename_i xs ys
  split at p
  ·rename_i hn
   cases r1 with
   | tup z1 h1 q1 =>
    cases r2 with
    | tup z2 h2 q2 =>
     rename_i a vs b ws
     have l1 := q1.length
     have l2 := q2.length
     refine op_catA pins s σ H _ _ v u Q I rx ry ⟨a, b, vs, ws, rfl, rfl, same_t ok.sub h1, same_t ok.sub h2, by rw [l1, l2]; exact le_line hn, fun e => ?_, fun _ e => ?_, fun _ _ q hq => ?_⟩
     ·have e' := (nil_of q1).mp e
      subst e'
      exact p W _ H (Go.refl _ _) ok (.tup z2 h2 q2)
     ·have e' := (nil_of q2).mp e
      subst e'
      rw [List.append_nil] at p
      exact p W _ H (Go.refl _ _) ok (.tup z1 h1 q1)
     ·exact p (W.new q (.tup (vs ++ ws))) _ _ (Go.new ok hq) (ok.new hq) (rep_tup ok hq (by rw [List.length_append]; exact le_line hn) (q1.app q2))
  ·exact p.elim
 ·exact opx_add (E := E)  pins s σ H x y v u Q I rx ry ⟨E', W, μ, dx, dy, ok, r1, r2, p⟩
end
/-! ### * -/
/-- one factor is a number; a list or a tuple so often -/
def mulX : D → D → Mu → R D := fun x y μ => match x, y with
 | .tup xs, .int k => if k ≤ 1000 ∧ -1000 ≤ k ∧ xs.length ≤ 1000 then .ok (.tup (List.replicate k.toNat xs).flatten) μ else .bad
 | .lst xs, .int k => if k ≤ 1000 ∧ -1000 ≤ k ∧ xs.length ≤ 1000 then .ok (.lst (List.replicate k.toNat xs).flatten) μ else .bad
 | x, y => mulD x y μ
@[simp] theorem mulX_int (i j : Int) (μ : Mu) : mulX (.int i) (.int j) μ = if (-(2 ^ 64) < i ∧ i < 2 ^ 64) ∨ (-(2 ^ 64) < j ∧ j < 2 ^ 64) then .ok (.int (i * j)) μ else .bad := of_eq_true (eq_self _)
@[simp] theorem mulX_tup (xs : List D) (k : Int) (μ : Mu) : mulX (.tup xs) (.int k) μ = if k ≤ 1000 ∧ -1000 ≤ k ∧ xs.length ≤ 1000 then .ok (.tup (List.replicate k.toNat xs).flatten) μ else .bad := of_eq_true (eq_self _)
@[simp] theorem mulX_lst (xs : List D) (k : Int) (μ : Mu) : mulX (.lst xs) (.int k) μ = if k ≤ 1000 ∧ -1000 ≤ k ∧ xs.length ≤ 1000 then .ok (.lst (List.replicate k.toNat xs).flatten) μ else .bad := of_eq_true (eq_self _)
theorem tuple_mul_same (l : Addr) (items : Array Value) (n : Nat) (dd : Option Addr) (sl : Array (Option Value)) (x : Int) (u : Tok) (c0 : (decide (x < -(2 ^ 63)) || decide (x ≥ 2 ^ 63)) = false) (c1 : (items.isEmpty || x == 1) = true) :
  Meets (Builtin.«tuple.__mul__» ⟨[.ref l, .int x u], []⟩) (fun _ R s => s.heap.get? l = some { cls := .type "tuple", dict := dd, data := .seq items n, slots := sl } ∧ R (.ok (.ret (Value.ref l))) s) :=
 .of_wp fun prog w A R s h => by
  obtain ⟨hp, g, d, tk, os⟩ := s
  obtain ⟨hl, h⟩ := h
  have f1 := AutoSeq1.idx_int
  wp_walk using wpAny_loadPart' hl
  repeat (first
   | (refine wpAny_ite_false (decide_eq_false (by rw [c0]; exact Bool.false_ne_true)) ?_; wp_walk using wpAny_loadPart' hl)
   | (refine wpAny_ite_true (decide_eq_true c1) ?_; wp_walk using wpAny_loadPart' hl))
  exact ⟨_, rfl, h⟩
theorem tuple_mul_none (l : Addr) (items : Array Value) (n : Nat) (dd : Option Addr) (sl : Array (Option Value)) (x : Int) (u : Tok) (c0 : (decide (x < -(2 ^ 63)) || decide (x ≥ 2 ^ 63)) = false) (c1 : (items.isEmpty || x == 1) = false) (c2 : (decide (x ≤ 0) || items.isEmpty) = true) :
  Meets (Builtin.«tuple.__mul__» ⟨[.ref l, .int x u], []⟩) (fun _ R s => s.heap.get? l = some { cls := .type "tuple", dict := dd, data := .seq items n, slots := sl } ∧
   R (.ok (.ret (Value.ref s.heap.objs.size))) { s with heap := s.heap.push { cls := Value.type "tuple", data := Data.seq #[] }, toks := s.toks }) :=
 .of_wp fun prog w A R s h => by
  obtain ⟨hp, g, d, tk, os⟩ := s
  obtain ⟨hl, h⟩ := h
  have f1 := AutoSeq1.idx_int
  wp_walk using wpAny_loadPart' hl
  repeat (first
   | (refine wpAny_ite_false (decide_eq_false (by rw [c0]; exact Bool.false_ne_true)) ?_; wp_walk using wpAny_loadPart' hl)
   | (refine wpAny_ite_false (decide_eq_false (by rw [c1]; exact Bool.false_ne_true)) ?_; wp_walk using wpAny_loadPart' hl)
   | (refine wpAny_ite_true (decide_eq_true c2) ?_; wp_walk using wpAny_loadPart' hl))
  exact ⟨_, rfl, h⟩
theorem Reps.rep {K : PySem.W.Frag} {W : Wd} {vs : List V} {ds : List D} (r : Reps K W vs ds) : ∀ n : Nat, Reps K W (List.replicate n vs).flatten (List.replicate n ds).flatten
 | 0 => .nil
 | n + 1 => by
  rw [List.replicate_succ, List.replicate_succ, List.flatten_cons, List.flatten_cons]
  exact r.app (Reps.rep r n)
theorem rep_len {α : Type} (xs : List α) (n : Nat) : (List.replicate n xs).flatten.length = n * xs.length := by
 induction n with
 | zero => simp
 | succ n ih => rw [List.replicate_succ, List.flatten_cons, List.length_append, ih, Nat.succ_mul, Nat.add_comm]
section
variable {X : Cx} {E : WX}
theorem rep_small {k : Int} {n : Nat} (h1 : k ≤ 1000) (h3 : n ≤ 1000) : k.toNat * n ≤ 1000000 := by
 have a1 : k.toNat * n ≤ 1000 * 1000 := Nat.mul_le_mul (by omega) h3
 omega
theorem opx_mulT : OpX X E (binaryOp .Mult) (fun x y μ => match x, y with
 | .tup xs, .int k => if k ≤ 1000 ∧ -1000 ≤ k ∧ xs.length ≤ 1000 then .ok (.tup (List.replicate k.toNat xs).flatten) μ else .bad
 | _, _ => .bad) := by
 intro pins s σ H x y v u Q I rx ry q
 obtain ⟨E', W, μ, dx, dy, ok, r1, r2, p⟩ := q
 dsimp only at p
 split at p
 ·rename_i xs k
  split at p
  ·rename_i hn
   obtain ⟨h1, h2, h3⟩ := hn
   cases r1 with
   | tup z1 ht q1 =>
    rename_i l vs
    cases r2
    have lv := q1.length
    have hT := same_t ok.sub ht
    by_cases hne : vs = []
    ·have e := (nil_of q1).mp hne
     subst e
     cases rx
     obtain ⟨t, rfl⟩ := ry
     obtain ⟨its, r, ⟨⟨cls, dd, data, sl⟩, ho, hc, n, hd⟩, hs⟩ := I.tuple hT
     simp only at hc hd
     subst hc hd
     have hi : its = [] := by
      rw [hne] at r
      cases r
      rfl
     refine wpAny_binaryOp_repeat_ref (T := "tuple") (U := "int") (by decide) ⟨_, ho, rfl⟩ (fun s' => typeIs_int s' k t) noFill_tuple_mul F.fills_int_mul F.slot_int_rmul repeat_tuple F.slot_int_index.lookup
      (call_meets F.slot_int_rmul (typeIs_int s k t) F.entry_int_rmul (F.args_int_rmul_2 _ _) (int_rmul_tuple k t l its.toArray n dd sl)
       ⟨ho, rfl, ⟨_, ho, rfl⟩, call_meets F.slot_tuple_mul ⟨_, ho, rfl⟩ F.entry_tuple_mul (F.args_tuple_mul_2 _ _) (tuple_mul_same l its.toArray n dd sl k t (by rw [decide_eq_false (by omega), decide_eq_false (by omega)] <;> rfl) (by rw [hi]; rfl)) ⟨ho, ?_⟩⟩)
     have ef : (List.replicate k.toNat ([] : List D)).flatten = [] := by simp
     rw [ef] at p
     exact ⟨.ref l, H, I, rfl, p W _ H (Go.refl _ _) ok (.tup z1 ht q1)⟩
    ·by_cases hk1 : k = 1
     ·subst hk1
      cases rx
      obtain ⟨t, rfl⟩ := ry
      obtain ⟨its, r, ⟨⟨cls, dd, data, sl⟩, ho, hc, n, hd⟩, hs⟩ := I.tuple hT
      simp only at hc hd
      subst hc hd
      refine wpAny_binaryOp_repeat_ref (T := "tuple") (U := "int") (by decide) ⟨_, ho, rfl⟩ (fun s' => typeIs_int s' 1 t) noFill_tuple_mul F.fills_int_mul F.slot_int_rmul repeat_tuple F.slot_int_index.lookup
       (call_meets F.slot_int_rmul (typeIs_int s 1 t) F.entry_int_rmul (F.args_int_rmul_2 _ _) (int_rmul_tuple 1 t l its.toArray n dd sl)
        ⟨ho, rfl, ⟨_, ho, rfl⟩, call_meets F.slot_tuple_mul ⟨_, ho, rfl⟩ F.entry_tuple_mul (F.args_tuple_mul_2 _ _) (tuple_mul_same l its.toArray n dd sl 1 t (by rw [decide_eq_false (by omega), decide_eq_false (by omega)] <;> rfl) (by rw [beq_self_eq_true, Bool.or_true])) ⟨ho, ?_⟩⟩)
      have ef : (List.replicate (Int.toNat 1) xs).flatten = xs := by simp
      rw [ef] at p
      exact ⟨.ref l, H, I, rfl, p W _ H (Go.refl _ _) ok (.tup z1 ht q1)⟩
     ·by_cases hk0 : k ≤ 0
      ·cases rx
       obtain ⟨t, rfl⟩ := ry
       obtain ⟨its, r, ⟨⟨cls, dd, data, sl⟩, ho, hc, n, hd⟩, hs⟩ := I.tuple hT
       simp only at hc hd
       subst hc hd
       have hi : its.toArray.isEmpty = false := by
        cases its with
        | nil => cases r; exact absurd rfl hne
        | cons a b => rfl
       refine wpAny_binaryOp_repeat_ref (T := "tuple") (U := "int") (by decide) ⟨_, ho, rfl⟩ (fun s' => typeIs_int s' k t) noFill_tuple_mul F.fills_int_mul F.slot_int_rmul repeat_tuple F.slot_int_index.lookup
        (call_meets F.slot_int_rmul (typeIs_int s k t) F.entry_int_rmul (F.args_int_rmul_2 _ _) (int_rmul_tuple k t l its.toArray n dd sl)
         ⟨ho, rfl, ⟨_, ho, rfl⟩, call_meets F.slot_tuple_mul ⟨_, ho, rfl⟩ F.entry_tuple_mul (F.args_tuple_mul_2 _ _) (tuple_mul_none l its.toArray n dd sl k t (by rw [decide_eq_false (by omega), decide_eq_false (by omega)] <;> rfl) (by rw [hi, Bool.false_or]; exact beq_eq_false_iff_ne.mpr hk1) (by rw [decide_eq_true hk0]; rfl)) ⟨ho, ?_⟩⟩)
       have ef : (List.replicate k.toNat xs).flatten = [] := by
        have : k.toNat = 0 := by omega
        rw [this]
        rfl
       rw [ef] at p
       have hf := I.hok.fresh (Nat.le_refl s.heap.objs.size)
       refine ⟨.ref s.heap.objs.size, upd H s.heap.objs.size (.tup []), I.laid (t' := s.toks) (o := .tup []) (fun b ob q => Heap.get?_push_of_some _ q) (Nat.le_refl _) ?_, rfl, p (W.new _ (.tup [])) _ _ (Go.new ok hf) (ok.new hf) (rep_tup ok hf (Nat.zero_le _) .nil)⟩
       exact ⟨Nat.zero_le _, [], .nil, IsTup.new _ _⟩
      ·refine op_repT pins s σ H _ _ v u Q I rx ry ⟨l, k, vs, rfl, rfl, hT, hne, by omega, h1, by rw [lv]; exact h3, fun q hq => ?_⟩
       exact p (W.new q (.tup _)) _ _ (Go.new ok hq) (ok.new hq) (rep_tup ok hq (by rw [rep_len]; exact le_line (rep_small h1 h3)) (q1.rep _))
  ·exact p.elim
 ·exact p.elim
end
section
variable {X : Cx} {E : WX}
theorem opx_mulL : OpX X E (binaryOp .Mult) (fun x y μ => match x, y with
 | .lst xs, .int k => if k ≤ 1000 ∧ -1000 ≤ k ∧ xs.length ≤ 1000 then .ok (.lst (List.replicate k.toNat xs).flatten) μ else .bad
 | _, _ => .bad) := by
 intro pins s σ H x y v u Q I rx ry q
 obtain ⟨E', W, μ, dx, dy, ok, r1, r2, p⟩ := q
 dsimp only at p
 split at p
 ·rename_i xs k
  split at p
  ·rename_i hn
   obtain ⟨h1, h2, h3⟩ := hn
   cases r1 with
   | lst z1 ht q1 =>
    rename_i l vs
    cases r2
    have lv := q1.length
    cases rx
    obtain ⟨t, rfl⟩ := ry
    obtain ⟨its, n, r, e⟩ := (same_lq ok.sub ht).isL I
    have hl := r.length
    have hz : vs.length * k.toNat ≤ sizeLine := by
     rw [lv, Nat.mul_comm]
     exact le_line (rep_small h1 h3)
    have hlen : its.toArray.size * k.toNat ≤ sizeLine := by rw [List.size_toArray, ← hl]; exact hz
    have hcap : ¬ its.toArray.size * k.toNat > (2 ^ 63 - 1) / 8 := by
     have : (sizeLine : Nat) ≤ (2 ^ 63 - 1) / 8 := by decide
     omega
    have hfit : ¬ (!Builtin.List.listFitsIndex k) = true := by
     rw [fitsIndex_both (by omega) (by omega)]
     exact Bool.false_ne_true
    have hlong : ¬ Builtin.List.listTooLong (its.toArray.size * k.toNat) = true := by
     rw [notLongL hlen]
     exact Bool.false_ne_true
    have hnew : List.foldl (fun x1 x2 => x1 ++ x2) #[] (List.replicate (if its.toArray.isEmpty = true then 0 else k.toNat) its.toArray) = (List.replicate k.toNat its).flatten.toArray := by
     rw [size_rep]
     cases its with
     | nil => simp
     | cons a r' => rw [if_neg (by simp)]
    refine wpAny_binaryOp_repeat_ref (T := "list") (U := "int") (by decide) ⟨_, e, rfl⟩ (fun s' => typeIs_int s' k t) noFill_list_mul F.fills_int_mul F.slot_int_rmul repeat_list F.slot_int_index.lookup
     (call_meets F.slot_int_rmul (typeIs_int s k t) F.entry_int_rmul (F.args_int_rmul_2 _ _) (int___rmul___int_list k t l its.toArray n)
      ⟨e, rfl, ⟨_, e, rfl⟩, call_meets F.slot_list_mul ⟨_, e, rfl⟩ F.entry_list_mul (F.args_list_mul_2 _ _) (AutoListH.list___mul___list_int_3 l its.toArray n k t hfit hcap hlong) ⟨e, ?_⟩⟩)
    rw [hnew]
    refine ⟨.ref _, _, I.lnew (t' := s.toks) (r.rep k.toNat) (by rw [PyProof.Rows.lm_len_rep_flat, Nat.mul_comm]; exact hz), rfl, ?_⟩
    have hq := I.fresh
    exact p (W.new _ (.lst _)) _ _ (Go.new ok hq) (ok.new hq) (rep_lst ok hq (by rw [rep_len]; exact le_line (rep_small h1 h3)) (q1.rep _))
  ·exact p.elim
 ·exact p.elim
theorem opx_mulX : OpX X E (binaryOp .Mult) mulX := by
 intro pins s σ H x y v u Q I rx ry q
 obtain ⟨E', W, μ, dx, dy, ok, r1, r2, p⟩ := q
 unfold mulX at p
 split at p
 ·exact opx_mulT (E := E) pins s σ H x y v u Q I rx ry ⟨E', W, μ, _, _, ok, r1, r2, p⟩
 ·exact opx_mulL (E := E) pins s σ H x y v u Q I rx ry ⟨E', W, μ, _, _, ok, r1, r2, p⟩
 ·exact opx_mul (E := E)  pins s σ H x y v u Q I rx ry ⟨E', W, μ, dx, dy, ok, r1, r2, p⟩
end
/-- texts in order -/
def insS (x : Str) : List Str → List Str
 | [] => [x]
 | y :: ys => if strLt y x = true then y :: insS x ys else x :: y :: ys
def srtS : List Str → List Str
 | [] => []
 | x :: xs => insS x (srtS xs)
def bSorted : List D → Mu → R D
 | [.lst ds], μ => match strsD ds with
  | some xs => if xs.length < 64 then .ok (.lst ((srtS xs).map .str)) μ else .bad
  | none => .bad
 | _, _ => .bad
def bStr : List D → Mu → R D
 | [.int i], μ => if i.natAbs.log2 < 1920 ∧ (toString i : Str).length ≤ 1000000 then .ok (.str (toString i)) μ else .bad
 | [.str x], μ => .ok (.str x) μ
 | _, _ => .bad
section
variable {X : Cx} {E : WX}
theorem cx_str : CallX X E (.type "str") bStr := callx fun W H μ ds xs Q ok r p => by
 unfold bStr at p
 split at p
 ·rename_i i
  split at p
  ·rename_i h
   cases r with
   | cons r1 r2 =>
    cases r2
    cases r1
    exact ⟨_, call_str_int, _, rfl, h.1, post_pure ok p (.str _ (le_line h.2))⟩
  ·exact p.elim
 ·cases r with
  | cons r1 r2 =>
   cases r2
   cases r1 with
   | str x z => exact ⟨_, SkE.call_str_str, _, rfl, post_pure ok p (.str _ z)⟩
 ·exact p.elim
/-! sorted -/
abbrev leS (x y : Str) : Prop := x.cps.toList ≤ y.cps.toList
theorem leS_of {x y : Str} (h : strLt y x = false) : leS x y := List.not_lt.mp (of_decide_eq_false h)
theorem leS_lt {x y : Str} (h : strLt x y = true) : leS x y := by
 rcases List.le_total x.cps.toList y.cps.toList with z | z
 ·exact z
 ·exact absurd (of_decide_eq_true h) (List.not_lt.mpr z)
theorem leS_trans {x y z : Str} (a : leS x y) (b : leS y z) : leS x z := List.le_trans a b
theorem leS_anti {x y : Str} (a : leS x y) (b : leS y x) : x = y := by
 have e := List.le_antisymm a b
 cases x
 cases y
 simpa using e
theorem rising_pw : ∀ (ys : List Str) (p : Str), risingS p ys = true → (p :: ys).Pairwise leS
 | [], p, _ => by simp
 | y :: ys, p, h => by
  unfold risingS at h
  rw [Bool.and_eq_true, Bool.not_eq_true', ltCps_eq] at h
  have ih := rising_pw ys y h.2
  have hy : leS p y := leS_of h.1
  refine List.pairwise_cons.mpr ⟨fun z hz => ?_, ih⟩
  rcases List.mem_cons.mp hz with e | hz'
  ·rw [e]; exact hy
  ·exact leS_trans hy ((List.pairwise_cons.mp ih).1 z hz')
theorem sortedS_pw {ys : List Str} (h : sortedS ys = true) : ys.Pairwise leS := by
 cases ys with
 | nil => exact .nil
 | cons y ys => exact rising_pw ys y h
theorem insS_perm (x : Str) : ∀ ys : List Str, (insS x ys).Perm (x :: ys)
 | [] => List.Perm.refl _
 | y :: ys => by
  unfold insS
  split
  ·exact ((insS_perm x ys).cons y).trans (List.Perm.swap x y ys)
  ·exact List.Perm.refl _
theorem srtS_perm : ∀ xs : List Str, (srtS xs).Perm xs
 | [] => List.Perm.refl _
 | x :: xs => (insS_perm x _).trans ((srtS_perm xs).cons x)
theorem insS_pw (x : Str) : ∀ {ys : List Str}, ys.Pairwise leS → (insS x ys).Pairwise leS
 | [], _ => by simp [insS]
 | y :: ys, h => by
  have hh := List.pairwise_cons.mp h
  unfold insS
  split
  ·rename_i hl
   refine List.pairwise_cons.mpr ⟨fun z hz => ?_, insS_pw x hh.2⟩
   rcases List.mem_cons.mp ((insS_perm x ys).mem_iff.mp hz) with e | hz'
   ·rw [e]; exact leS_lt hl
   ·exact hh.1 z hz'
  ·rename_i hl
   have hxy : leS x y := leS_of (by simpa using hl)
   refine List.pairwise_cons.mpr ⟨fun z hz => ?_, h⟩
   rcases List.mem_cons.mp hz with e | hz'
   ·rw [e]; exact hxy
   ·exact leS_trans hxy (hh.1 z hz')
theorem srtS_pw : ∀ xs : List Str, (srtS xs).Pairwise leS
 | [] => .nil
 | x :: xs => insS_pw x (srtS_pw xs)
theorem srtS_uniq {xs ys : List Str} (p : ys.Perm xs) (h : sortedS ys = true) : ys = srtS xs :=
 List.Perm.eq_of_pairwise (fun a b _ _ h1 h2 => leS_anti h1 h2) (sortedS_pw h) (srtS_pw xs) (p.trans (srtS_perm xs).symm)
theorem strs_bound {K : PySem.W.Frag} {W : Wd} : ∀ {vs : List V} {ds : List D} {ys : List Str}, Reps K W vs ds → strsD ds = some ys → ∀ y ∈ ys, y.length ≤ sizeLine
 | _, _, _, .nil, h => by
  simp [strsD] at h
  subst h
  exact fun y hy => nomatch hy
 | _, _, _, .cons (d := d) (ds := ds) r rs, h => by
  cases d with
  | str x =>
   cases r with
   | str _ z =>
    unfold strsD at h
    cases e : strsD ds with
    | none => rw [e] at h; exact nomatch h
    | some cs =>
     rw [e] at h
     cases h
     intro y hy
     rcases List.mem_cons.mp hy with q | q
     ·rw [q]; exact z
     ·exact strs_bound rs e y q
  | _ => simp [strsD] at h
theorem cx_sorted : CallX X E (.builtin "sorted") bSorted := callx fun W H μ ds xs Q ok r p => by
 unfold bSorted at p
 split at p
 ·rename_i es
  split at p
  ·rename_i ys hy
   split at p
   ·rename_i hn
    cases r with
    | cons r1 r2 =>
     cases r2
     cases r1 with
     | lst z h q =>
      have b := strs_bound q hy
      have e := strsD_rep q hy
      subst e
      refine ⟨_, cr_sortedS, _, ys, rfl, (same_lq ok.sub h).sq, hn, fun zs l pm so hl => ?_⟩
      have ez := srtS_uniq pm so
      subst ez
      have hlz : (srtS ys).length = ys.length := (srtS_perm ys).length_eq
      exact p _ _ _ (Go.new ok hl) (ok.new hl) (rep_lst ok hl (by rw [List.length_map, hlz]; exact le_line (by omega)) (strs_reps fun y m => b y ((srtS_perm ys).mem_iff.mp m)))
   ·exact p.elim
  ·exact p.elim
 ·exact p.elim
end
end DL
/-! DL20: defs as values, isinstance of own classes, zip, != of data. -/
namespace DL
open PySem L2 PySem.Spec PyProof.Rows
/-- the slot i holds the def at f -/
def isFn (i c : Nat) (ρ : En) : Bool := match ρ[i]? with
 | some (some (.glo g)) => decide (g = c)
 | _ => false
def dcallL (i n : Nat) (F : List D → Mu → R D) (dd : List D) (fa : FA) : FE := fun ρ μ => if isFn i n ρ = true then (fa ρ μ).bind fun ds μ1 => F (ds ++ dd) μ1 else .bad
@[simp] theorem ap_callL (i n : Nat) (F : List D → Mu → R D) (dd : List D) (fa : FA) (ρ : En) (μ : Mu) : dcallL i n F dd fa ρ μ = if isFn i n ρ = true then (fa ρ μ).bind fun ds μ1 => F (ds ++ dd) μ1 else .bad := of_eq_true (eq_self _)
/-- one of two readings, chosen by the names -/
def dchoose (c : En → Bool) (f g : FE) : FE := fun ρ μ => if c ρ = true then f ρ μ else g ρ μ
@[simp] theorem ap_choose (c : En → Bool) (f g : FE) (ρ : En) (μ : Mu) : dchoose c f g ρ μ = if c ρ = true then f ρ μ else g ρ μ := of_eq_true (eq_self _)
section
variable {X : Cx} {E : WX} {k i n : Nat} {f : Addr} {fd : FuncData} {ps : List Str} {F : List D → Mu → R D} {dd : List D} {x : Str} {p pos : Pos} {e : Expr} {es : List Expr} {fa : FA} {fe ge : FE} {c : En → Bool}
theorem de_choose (h1 : DE X E e fe) (h2 : DE X E e ge) : DE X E e (dchoose c fe ge) := ⟨fun pins s σ H Q I q => by
 obtain ⟨W, ρ, μ, ok, en, pq⟩ := q
 unfold dchoose at pq
 by_cases hc : c ρ = true
 ·rw [if_pos hc] at pq
  exact h1.run pins s σ H Q I ⟨W, ρ, μ, ok, en, pq⟩
 ·rw [if_neg hc] at pq
  exact h2.run pins s σ H Q I ⟨W, ρ, μ, ok, en, pq⟩⟩
theorem de_fn (n : Nat) (hm : X.mg x = some (.ref (cl X.K n))) (hg : Gl X x := by rfl) (hd : (x == ("__debug__" : Str)) = false := by decide) : DE X E (.Name x pos) (dc (dfn n)) := de_glob (v := .ref (cl X.K n)) hm rfl (fun _ => .glo _) hg hd
theorem de_callL (n : Nat) (hfn : f = cl X.K n) (G : FnG X.prog X.w X.K X.mg X.base k f fd ps F) (c : Cal X E k) (i : Nat) (hk : PySem.W.keepIn X.K (.ref f) = true) (b : Dfl X.K fd ps (e :: es).length dd) (ha : DA X E (e :: es) fa)
  (hN : X.N[i]? = some x := by rfl) (hv : Vis X.env.scope x := by first | exact Or.inl rfl | exact Or.inr (Or.inl rfl) | exact Or.inr (Or.inr rfl))
  (hf : HasLen fa (e :: es).length := by repeat (first | exact aNil_len | refine aCons_len ?_)) (hdb : (x == ("__debug__" : Str)) = false := by decide) (hcd : (x == ("__classdict__" : Str)) = false := by decide)
  (he : starEach (e :: es) X.env = (false, eval e X.env) :: starEach es X.env := by rfl) (hpl : (backTo pos (starEach es X.env)).any (·.1) = false := by rfl) :
  DE X E (.Call (.Name x p) (e :: es) [] pos) (dcallL i n F dd fa) := by
 subst hfn
 refine ⟨fun pins s σ H Q I q => ?_⟩
 obtain ⟨W, ρ, μ, ok, en, pq⟩ := q
 unfold dcallL at pq
 by_cases hq : isFn i n ρ = true
 ·rw [if_pos hq] at pq
  have hs : σ[i]? = some (some (.ref (cl X.K n))) := by
   unfold isFn at hq
   split at hq
   ·rename_i g hr
    have eg := of_decide_eq_true hq
    subst eg
    obtain ⟨v, hv, rv⟩ := en.at_ i _ hr
    cases rv
    exact hv
   ·cases hq
  refine wpAny_Call_Name_kw (thn ((pe_var (pos := p) hN hv hdb hcd).run pins s σ H (fun v H1 => v = .ref (cl X.K n) ∧ H1 = H) I ⟨.ref (cl X.K n), hs, rfl, rfl⟩) fun u s1 ⟨v, H1, I1, r1, q1⟩ => ?_)
  obtain ⟨rfl, rfl⟩ := q1
  cases r1
  have rd : rA X.K E fa σ H1 (fun vs H1 => ∃ W1 ds μ1, vs.length = (e :: es).length ∧ Ok X.K W1 H1 μ1 ∧ Reps X.K W1 vs ds ∧ postE X.K (WE E σ) W1 H1 (F (ds ++ dd) μ1) Q) := by
   refine ⟨W, ρ, μ, ok, en, ?_⟩
   revert pq
   cases hq : fa ρ μ with
   | ok ds μ1 => exact fun p W1 xs H1 g o r => ⟨W1, ds, μ1, by rw [r.length]; exact hf ρ μ ds μ1 hq, o, r, post.mono g p⟩
   | ex c fs μ1 => exact fun p => p
   | bad => exact fun p => p
  refine PySem.W.callWith_K (h₀ := X.base) I.ok.mod.kin hk (thn (ha.run pos pins s1 σ _ _ I1 rd) fun us s2 ⟨vs, H2, I2, r, W1, ds, μ1, hn, o1, r1, q1⟩ => ⟨I2.kIn, ?_⟩) he hpl
  exact callF_args G c b I2 (show us.length = _ by rw [← r.length]; exact hn) r o1 r1 q1
 ·rw [if_neg hq] at pq
  exact pq.elim
end
/-! ### isinstance of own classes -/
/-- a class whose instances isinstance may be asked about -/
structure IsC (K : PySem.W.Frag) (C : Addr) : Prop where
 cl : Cls K C
 ha : PySem.W.findIn K (.ref C) "__class__" = some (some (.builtin "object.__class__"))
 hn : PySem.W.specialIn K (.builtin "object.__class__") "__get__" = some (some (.builtin "getset_descriptor.__get__"))
 ht : PySem.W.takesIn K (.builtin "object.__class__") = some true
 hm : PySem.W.mroIn K C (.type "object") = some true
def tyV (μ : Mu) (d : D) : Option Ty := match insD μ d with
 | some (C, _) => some (.own C)
 | none => (tyName μ d).map .blt
/-- the same class: both an own one, both a built-in one -/
def sameC : D → D → Bool
 | .glo a, .glo b => decide (a = b)
 | .cst (.ty a), .cst (.ty b) => decide (a = b)
 | _, _ => false
/-- isinstance(x, c): cs, the own classes that x may be of; kt, what is known of c -/
def isiO (cs : List Nat) (kt : Ty → Option Bool) (d : D) (μ : Mu) : Option Bool := match tyV μ d with
 | some t => match kt t with
  | some b => (match t with
   | .own C => if C ∈ cs then some b else none
   | _ => some b)
  | none => none
 | none => none
def bIsiO (c : D) (cs : List Nat) (kt : Ty → Option Bool) : List D → Mu → R D
 | [d, c'], μ => if sameC c' c = true then R.of ((isiO cs kt d μ).map .bl) μ else .bad
 | _, _ => .bad
@[simp] theorem isiO_ap (c : Nat) (cs : List Nat) (kt : Ty → Option Bool) (d : D) (μ : Mu) : bIsiO (.glo c) cs kt [d, .glo c] μ = R.of ((isiO cs kt d μ).map .bl) μ := by
 unfold bIsiO
 simp [sameC]
/-- what is known of a class: which types are of it, which are not -/
def ktL (yes no : List Ty) : Ty → Option Bool := fun t => if t ∈ yes then some true else if t ∈ no then some false else none
theorem cx_isiO {X : Cx} {E : WX} {cs : List Nat} {kt : Ty → Option Bool} (c : Ty) (hcs : ∀ C ∈ cs, IsC X.K (cl X.K C)) (hk : ∀ t b, kt t = some b → PySem.W.kitOne X.K (t.val X.K) (c.val X.K) = some b) : CallX X E (.builtin "isinstance") (bIsiO c.d cs kt) := callx fun W H μ ds xs Q ok r p => by
 unfold bIsiO at p
 split at p
 ·rename_i d c'
  split at p
  ·rename_i ec
   cases r with
   | cons r1 r2 =>
    cases r2 with
    | cons r2 r3 =>
     cases r3
     rename_i v1 v2
     have hcv : ClsV v2 (c.val X.K) := by
      cases c with
      | own C =>
       unfold sameC Ty.d at ec
       cases c' <;> simp at ec
       subst ec
       cases r2
       exact .own _
      | blt t =>
       unfold sameC Ty.d at ec
       cases c' <;> simp at ec
       rename_i w
       cases w <;> simp at ec
       subst ec
       cases r2
       exact .ty _
     cases hi0 : isiO cs kt d μ with
     | none => rw [hi0] at p; exact p.elim
     | some b =>
      rw [hi0] at p
      have q : Q (.bl b) H := post_pure ok p (.bl b)
      unfold isiO at hi0
      split at hi0
      ·rename_i t ht
       split at hi0
       ·rename_i b' hb
        have ty : TyX X.K H v1 (t.val X.K) ∧ b' = b := by
         unfold tyV at ht
         cases hi : insD μ d with
         | none =>
          rw [hi] at ht
          cases hn : tyName μ d with
          | none => rw [hn] at ht; cases ht
          | some n =>
           rw [hn] at ht
           cases ht
           exact ⟨tyName_rep ok r1 hn, Option.some.inj hi0⟩
         | some z =>
          obtain ⟨C, fs⟩ := z
          rw [hi] at ht
          cases ht
          dsimp only at hi0
          split at hi0
          ·rename_i hC
           obtain ⟨a, dx, ns, vs, ds, rfl, ha, _, _⟩ := ins_rep ok r1 hi
           have K := hcs C hC
           exact ⟨.base (.ins ha K.cl K.ha K.hn K.ht K.hm), Option.some.inj hi0⟩
          ·cases hi0
        obtain ⟨ty, rfl⟩ := ty
        exact ⟨_, call_isi, v1, v2, t.val X.K, c.val X.K, b', rfl, hcv, ty, hk t b' hb, q⟩
       ·cases hi0
      ·cases hi0
  ·exact p.elim
 ·exact p.elim
/-! ### zip -/
def zipD (xs ys : List D) : List D := (xs.zip ys).map fun q => .tup [q.1, q.2]
def itZ (f : FA) : FA := fun ρ μ => (f ρ μ).bind fun ds μ1 => match ds with
 | [.lst xs, .lst ys] => .ok (zipD xs ys) μ1
 | [.tup xs, .tup ys] => .ok (zipD xs ys) μ1
 | _ => .bad
@[simp] theorem ap_itZ (f : FA) (ρ : En) (μ : Mu) : itZ f ρ μ = (f ρ μ).bind fun ds μ1 => match ds with
 | [.lst xs, .lst ys] => .ok (zipD xs ys) μ1
 | [.tup xs, .tup ys] => .ok (zipD xs ys) μ1
 | _ => .bad := of_eq_true (eq_self _)
theorem zipD_len (xs ys : List D) : (zipD xs ys).length = min xs.length ys.length := by simp [zipD]
theorem zipD_get {xs ys : List D} {i : Nat} {x y : D} (hx : xs[i]? = some x) (hy : ys[i]? = some y) : (zipD xs ys)[i]? = some (.tup [x, y]) := by
 unfold zipD
 have e : (xs.zip ys)[i]? = some (x, y) := List.getElem?_zip_eq_some.mpr ⟨hx, hy⟩
 rw [List.getElem?_map, e]
 rfl
section
variable {K : PySem.W.Frag} {W : Wd} {a b : Addr} {vs ws : List V} {xs ys : List D}
theorem walk_zipL (z : xs.length ≤ sizeLine) (h1 : SqL K W.S a vs) (r1 : Reps K W vs xs) (h2 : SqL K W.S b ws) (r2 : Reps K W ws ys) : Walk K W (Itz K a b) (zipD xs ys) := by
 have l1 := r1.length
 have l2 := r2.length
 refine ⟨by rw [zipD_len]; omega, fun H i s hi => ?_, fun H i s hi => ⟨vs, ws, same_l s h1, same_l s h2, by rw [zipD_len] at hi; omega⟩, fun H i x H' s y d e W1 μ le ok => ?_⟩
 ·rw [zipD_len] at hi
  obtain ⟨v, e, _⟩ := r1.get (List.getElem?_eq_getElem (show i < xs.length by omega))
  obtain ⟨w, e2, _⟩ := r2.get (List.getElem?_eq_getElem (show i < ys.length by omega))
  exact ⟨vs, ws, v, w, same_l s h1, same_l s h2, e, e2⟩
 ·obtain ⟨T, xv, yv, rfl, hT, rfl, q1, q2⟩ := y
  obtain ⟨xd, e3, r3⟩ := r1.getV (q1 vs (same_l s h1))
  obtain ⟨yd, e4, r4⟩ := r2.getV (q2 ws (same_l s h2))
  rw [zipD_get e3 e4] at e
  cases e
  exact ⟨W1.new T (.tup [xv, yv]), Go.new ok hT, ok.new hT, rep_tup ok hT (by show 2 ≤ sizeLine; decide) (.cons (r3.mono le) (.cons (r4.mono le) .nil))⟩
theorem walk_zipT (z : xs.length ≤ sizeLine) (h1 : SqT K W.S a vs) (r1 : Reps K W vs xs) (h2 : SqT K W.S b ws) (r2 : Reps K W ws ys) : Walk K W (RZ.ItzT K a b) (zipD xs ys) := by
 have l1 := r1.length
 have l2 := r2.length
 refine ⟨by rw [zipD_len]; omega, fun H i s hi => ?_, fun H i s hi => ⟨vs, ws, same_t s h1, same_t s h2, by rw [zipD_len] at hi; omega⟩, fun H i x H' s y d e W1 μ le ok => ?_⟩
 ·rw [zipD_len] at hi
  obtain ⟨v, e, _⟩ := r1.get (List.getElem?_eq_getElem (show i < xs.length by omega))
  obtain ⟨w, e2, _⟩ := r2.get (List.getElem?_eq_getElem (show i < ys.length by omega))
  exact ⟨vs, ws, v, w, same_t s h1, same_t s h2, e, e2⟩
 ·obtain ⟨T, xv, yv, rfl, hT, rfl, q1, q2⟩ := y
  obtain ⟨xd, e3, r3⟩ := r1.getV (q1 vs (same_t s h1))
  obtain ⟨yd, e4, r4⟩ := r2.getV (q2 ws (same_t s h2))
  rw [zipD_get e3 e4] at e
  cases e
  exact ⟨W1.new T (.tup [xv, yv]), Go.new ok hT, ok.new hT, rep_tup ok hT (by show 2 ≤ sizeLine; decide) (.cons (r3.mono le) (.cons (r4.mono le) .nil))⟩
end
theorem di_zip {X : Cx} {E : WX} {e e2 : Expr} {fa : FA} {p pos tpos : Pos} {elts : List Expr} {kk : Nat} (hm : X.mg "zip" = none) (ha : DA X E [e, e2] fa) (hg : Gl X "zip" := by rfl) (hs : starEach [e, e2] X.env = (false, eval e X.env) :: starEach [e2] X.env := by rfl) (hpl : (backTo pos (starEach [e2] X.env)).any (·.1) = false := by rfl) :
  DI X E (.Tuple elts kk tpos) (.Call (.Name "zip" p) [e, e2] [] pos) (itZ fa) := by
 refine pi_imp (RZ.pi_zipA hg hm ha hs hpl) fun σ H Q ⟨W, ρ, μ, ok, en, p⟩ => ?_
 refine ⟨W, ρ, μ, ok, en, ?_⟩
 unfold itZ at p
 revert p
 cases fa ρ μ with
 | ex c fs μ1 => exact fun p => p
 | bad => exact fun p => p.elim
 | ok ds μ1 =>
  rw [R.bind_ok]
  intro p W1 vs H1 g1 o1 r
  match ds, r, p with
  | [.lst xs, .lst ys], .cons ra (.cons rb .nil), p =>
   cases ra with
   | lst z h r =>
    cases rb with
    | lst z2 h2 r2 => exact ⟨_, _, _, _, rfl, .inl ⟨(same_lq o1.sub h).sq, (same_lq o1.sub h2).sq, p W1 _ H1 g1 o1 (walk_zipL z h.sq r h2.sq r2)⟩⟩
  | [.tup xs, .tup ys], .cons ra (.cons rb .nil), p =>
   cases ra with
   | tup z h r =>
    cases rb with
    | tup z2 h2 r2 => exact ⟨_, _, _, _, rfl, .inr ⟨same_t o1.sub h, same_t o1.sub h2, p W1 _ H1 g1 o1 (walk_zipT z h r h2 r2)⟩⟩
/-! ### != of data -/
def dNeX : D → D → Mu → R D := fun x y μ => match x.kd, y.kd with
 | .flat _, .flat _ => dNe x y μ
 | _, _ => match x.py, y.py with
  | some p, some q => if SeqAt.shaped p = true ∧ SeqAt.shaped q = true then .ok (.bl (!PyData.eqv p q)) μ else .bad
  | _, _ => .bad
theorem opx_neX {X : Cx} {E : WX} (hu : X.A.units + 64 < cLine) : OpX X E (compareOp .NotEq) dNeX := by
 intro pins s σ H x y v u Q I rx ry q
 obtain ⟨E', W, μ, dx, dy, ok, r1, r2, p⟩ := q
 unfold dNeX at p
 split at p
 ·exact opx_ne (E := E)  pins s σ H x y v u Q I rx ry ⟨E', W, μ, dx, dy, ok, r1, r2, p⟩
 ·split at p
  ·rename_i p1 p2 e1 e2
   split at p
   ·rename_i hs
    exact op_neD hu pins s σ H x y v u Q I rx ry ⟨p1, p2, py_dp ok r1 e1, py_dp ok r2 e2, hs.1, hs.2, post_pure ok p (.bl _)⟩
   ·exact p.elim
  ·exact p.elim
end DL
/-! DL21: len(set(xs)) of texts. -/
namespace DL
open PySem L2 PySem.Spec PyProof.Rows
theorem met_succ {xs : List Str} {i : Nat} (h : i < xs.length) : met xs (i + 1) = dd1 (met xs i) (xs.getD i Str.empty) := by
 unfold met
 rw [List.take_succ, List.foldl_append]
 simp [h, List.getD]
theorem dd1_any (σ : List Str) (v k : Str) : (dd1 σ v).any (· == k) = (σ.any (· == k) || decide (k = v)) := by
 unfold dd1
 by_cases h : σ.any (· == v) = true
 ·rw [if_pos h]
  by_cases e : k = v
  ·rw [e, h]; rfl
  ·rw [decide_eq_false e, Bool.or_false]
 ·rw [if_neg h, List.any_append]
  by_cases e : k = v
  ·subst e; simp
  ·have hb : (v == k) = false := beq_eq_false_iff_ne.mpr fun z => e z.symm
   simp [hb, e]
theorem dd1_len (σ : List Str) (v : Str) : (dd1 σ v).length = if σ.any (· == v) then σ.length else σ.length + 1 := by
 unfold dd1
 split <;> simp
theorem met_len (xs : List Str) : ∀ i, i ≤ xs.length → (met xs i).length ≤ i
 | 0, _ => by simp [met]
 | i + 1, h => by
  rw [met_succ h, dd1_len]
  have := met_len xs i (by omega)
  split <;> omega
section
variable {prog : Program} {w : World} {A : Around} {R : Result → Shared → Prop} {J : Addr} {fp wr : List Addr} {G : Array GenState → Array GenState → Prop} {P : Nat → Value → Prop} {St : Nat → Shared → Prop}
abbrev SetAt (prog : Program) (w : World) (h : Heap) (S : Addr) (l : List Str) : Prop := h.SetOf (PySem.strKind prog w) S (fun k' => l.any (· == k')) l.length
theorem loop_met (xs : List Str) (W : WalksS prog w A.in1 J fp wr G xs.length P St) (S : Addr) (hSf : S ∉ fp) (hb : xs.length + 1 < scanBound) (hval : ∀ i v, P i v → ∃ t, v = .str (xs.getD i Str.empty) t) :
  ∀ (k i : Nat) (s : Shared), xs.length - i = k → i ≤ xs.length → St i s → SetAt prog w s.heap S (met xs i) → (∀ s', Moved (S :: wr) G s s' → SetAt prog w s'.heap S (met xs xs.length) → R (.ok (.ret .none)) s') →
   codeAny (model prog w) A (.builtin "set.update.loop" ⟨[.ref S, .ref J], []⟩) R s := by
 have out : S ∉ wr := fun z => hSf (W.sub _ z)
 have more : ∀ b ∈ wr, b ∈ S :: wr := fun b z => List.mem_cons_of_mem _ z
 have keep : ∀ {s s' : Shared} {l : List Str}, Moved wr G s s' → SetAt prog w s.heap S l → SetAt prog w s'.heap S l := fun hm ⟨o, es, ep, tb, ho, rest⟩ => ⟨o, es, ep, tb, hm.heap S _ out ho, rest⟩
 intro k
 induction k with
 | zero =>
  intro i s hk hi st hS hR
  obtain rfl : i = xs.length := by omega
  refine codeAny_builtin PyProof.Rows.F.entry_set_update_loop ?_
  rw [Around.under_plainId PyProof.Rows.F.plain_set_update_loop _]
  exact wpAny_bind (W.done s _ _ st fun s' hm => wpAny_pure (hR s' (hm.mono more) (keep hm hS)))
 | succ k ih =>
  intro i s hk hi st hS hR
  have lt : i < xs.length := by omega
  refine codeAny_builtin PyProof.Rows.F.entry_set_update_loop ?_
  rw [Around.under_plainId PyProof.Rows.F.plain_set_update_loop _]
  refine wpAny_bind (W.item i s _ _ lt st fun v s' hP st' hm => ?_)
  obtain ⟨t, rfl⟩ := hval i v hP
  have here : SetAt prog w s'.heap S (met xs i) := keep hm hS
  have room : (met xs i).length + 1 < scanBound := by
   have := met_len xs i hi
   omega
  show wpAny _ A.in1 (holding [Value.str (xs.getD i Str.empty) t] (setAdd S (.str (xs.getD i Str.empty) t)) >>= _) _ _ s'
  refine wpAny_bind (wpAny_holding ?_)
  unfold setAdd
  refine wpAny_holding (wpAny_bind ((PySem.strKind prog w).pyHash (k := xs.getD i Str.empty) (strKind_is _ _ _ _) ?_))
  refine wpAny_setAddHashed_of (knd := PySem.strKind prog w) (s := { s' with toks := s'.toks + 1 }) (strKind_is _ _ _ _) rfl here room fun h' hsb hS2 => ?_
  have next : SetAt prog w h' S (met xs (i + 1)) := SetOf_congr hS2 (fun k' => by rw [met_succ lt, dd1_any]) (by rw [met_succ lt, dd1_len])
  refine wpAny_pure ⟨plainId_quiet PyProof.Rows.F.plain_set_update_loop _, ih (i + 1) _ (by omega) lt (W.frame _ s' _ _ st' (Nat.le_succ _) fun b hb o e => ?_) next fun s2 hm2 hS3 => ?_⟩
  ·rw [hsb.2 b fun z => hSf (by rw [← z]; exact hb)]
   exact e
  ·refine hR s2 (Moved.trans W.gtrans ((hm.mono more).then_heap (Nat.le_succ _) fun b o hb e => ?_) hm2) hS3
   rw [hsb.2 b fun z => hb (by rw [z]; exact List.mem_cons_self)]
   exact e
end
section
variable {prog : Program} {w : World} {A : Around} {E : Value → Shared → Prop} {s : Shared}
abbrev newSet (led : Bool) : Obj := { cls := .type "set", dict := none, data := .set #[] 0 (.fresh 0 0 led) }
/-- set(xs) of a list of texts -/
theorem call_set_met {l : Addr} {items : Array Value} {xs : List Str} {Q : Value → Shared → Prop} (hh : A.handled = none) (hl : s.heap.IsList l items) (hi : StrsAre items.toList xs) (hb : xs.length + 1 < scanBound)
  (h : ∀ (h' : Heap) (tk : Nat), SetAt prog w h' s.heap.objs.size (met xs xs.length) → (∀ b o, b < s.heap.objs.size → s.heap.get? b = some o → h'.get? b = some o) → Q (.ref s.heap.objs.size) { s with heap := h', toks := tk }) :
  wpAny (model prog w) A (call (.type "set") [.ref l]) Q E s := by
 have hsz : items.size = xs.length := by rw [← StrsAre.len_eq hi, Array.length_toList]
 obtain ⟨c, tl, m0⟩ := PySem.F.called_set.mro
 have m1 := PySem.F.called_set.made
 have m2 := PySem.F.called_set.sub
 refine wpAny_call (codeAny_of_tree ?_)
 show wpAny _ _ (callAny (.type "set") _) _ _ _
 refine wpAny_pure ⟨Code.quiet_builtin _ (by decide +kernel), codeAny_builtin PySem.F.entry_type_call ?_⟩
 rw [Around.under_plain (weight_type_call_type "set" [.ref l] []) rfl]
 have m3 := PySem.F.called_set.notType
 have m4 := PySem.F.called_set.canCreate
 have m5 := PySem.F.typeCall_set_1 (.ref l)
 repeat (any_goals (first | assumption | wp_step))
 refine codeAny_mono (code_set_new_1 (.ref l) (E := E) (Q₁ := fun u s1 => ∃ led : Bool, u = .ref s.heap.objs.size ∧ s1 = { s with heap := s.heap.push (newSet led) }) fun led => ⟨led, rfl, rfl⟩) fun r s1 hr => ?_
 cases r with
 | error e => exact hr
 | ok fl =>
  cases fl with
  | ret u =>
   obtain ⟨led, rfl, rfl⟩ := hr
   have gS : (s.heap.push (newSet led)).get? s.heap.objs.size = some (newSet led) := Heap.get?_push_size _ rfl
   have tS : Shared.TypeIs { s with heap := s.heap.push (newSet led) } (.ref s.heap.objs.size) "set" := ⟨_, gS, rfl⟩
   have n1 := PySem.F.called_set.init.lookup
   have n2 := PySem.F.called_set.init.bind (.ref s.heap.objs.size)
   repeat (any_goals (first | assumption | wp_step))
   refine codeAny_mono (codeAny_call_builtin (R := wants (fun r s2 => r = .none ∧ ∃ h' tk, s2 = { s with heap := h', toks := tk } ∧ SetAt prog w h' s.heap.objs.size (met xs xs.length) ∧ ∀ b o, b < s.heap.objs.size → s.heap.get? b = some o → h'.get? b = some o) E) PySem.F.called_set.init.plain PySem.F.entry_set_init (check_set_init_1 tS ?_)) fun r2 s2 hr2 => ?_
   ·obtain ⟨⟨oc, od, dt, sl⟩, ho, hc, nl, hd⟩ := hl
    simp only at hc hd
    subst hc hd
    have ho' : (s.heap.push (newSet led)).get? l = some { cls := .type "list", dict := od, data := .seq items nl, slots := sl } := Heap.get?_push_of_some _ ho
    have k1 := PySem.F.sub_list_set
    have k2 := PySem.F.sub_list_frozenset
    have k3 : (Value.type "list" == Value.type "dict") = false := by decide
    have hl1 : (s.heap.push (newSet led)).IsList l items := ⟨_, ho', rfl, nl, rfl⟩
    unfold Builtin.«set.__init__» noKeywords Builtin.Frozenset.updateFrom
    generalize hPI : pyIter = PI
    wp_walk
    subst hPI
    refine wpAny_pyIter_list hl1 (wpAny_bind (wpAny_runValue ?_))
    have lS : l < s.heap.objs.size := Heap.lt_size ho
    have h3 : A.in1.in1.in1.handled = none := by simp [hh]
    have nI : l ≠ (s.heap.push (newSet led)).objs.size := by
     rw [Heap.size_push]
     exact Nat.ne_of_lt (Nat.lt_succ_of_lt lS)
    have nS : s.heap.objs.size ∉ [(s.heap.push (newSet led)).objs.size, l] := by
     rw [Heap.size_push]
     intro z
     rcases List.mem_cons.mp z with z | z
     ·exact absurd z (Nat.ne_of_lt (Nat.lt_succ_self _))
     ·exact absurd (List.mem_singleton.mp z) (Nat.ne_of_gt lS)
    have hval : ∀ (i : Nat) (v : Value), items[i]? = some v → ∃ t, v = .str (xs.getD i Str.empty) t := fun i v hv => SS.strs_at hi i v (by rw [Array.getElem?_toList]; exact hv)
    have wk := (Walks.list (prog := prog) (w := w) h3 (s.heap.push (newSet led)).objs.size l nI items).toS
    rw [hsz] at wk
    refine loop_met xs wk s.heap.objs.size nS hb hval (xs.length - 0) 0 _ (by omega) (Nat.zero_le _) ⟨⟨_, Heap.get?_push_size _ rfl, rfl, rfl⟩, hl1.push _⟩ ?_ ?_
    ·exact SetOf_congr ((setObjOf_fresh (knd := PySem.strKind prog w) led).setOf (Heap.get?_push_of_some _ gS) (by unfold scanBound; omega)) (fun _ => rfl) rfl
    ·intro s' hm hS'
     obtain ⟨h', g', d', tk', os'⟩ := s'
     obtain rfl : g' = s.gens := hm.gens
     obtain rfl : d' = s.drawn := hm.drawn
     obtain rfl : os' = s.os := hm.os
     refine wpAny_pure (wpAny_pure ⟨rfl, h', tk', rfl, hS', fun b o hb e => hm.heap b o (fun z => ?_) (Heap.get?_push_of_some _ (Heap.get?_push_of_some _ e))⟩)
     rcases List.mem_cons.mp z with z | z
     ·exact absurd z (Nat.ne_of_lt hb)
     ·have z := List.mem_singleton.mp z
      rw [Heap.size_push] at z
      exact absurd z (Nat.ne_of_lt (Nat.lt_succ_of_lt hb))
   ·cases r2 with
    | error e => exact hr2
    | ok fl2 =>
     cases fl2 with
     | ret r =>
      obtain ⟨rfl, h', tk, rfl, hS', hk'⟩ := hr2
      repeat (any_goals (first | assumption | wp_step))
      exact h _ _ hS' hk'
     | _ => exact hr2.elim
  | _ => exact hr.elim
end
end DL
/-! DL22: len(set(xs)) of numbers or texts; texts with fields. -/
namespace DL
open PySem L2 PySem.Spec PyProof.Rows
def setLen (ds : List D) : Option Nat := match intsD ds with
 | some ns => if ns.length ≤ 1000 then some (kinds ns) else none
 | none => match strsD ds with
  | some xs => if xs.length ≤ 1000 then some (met xs xs.length).length else none
  | none => none
def dlensetX (f : FE) : FE := fun ρ μ => (f ρ μ).bind fun d μ1 => match d with
 | .lst ds => R.of ((setLen ds).map fun n : Nat => D.int (n : Int)) μ1
 | _ => .bad
@[simp] theorem ap_lensetX (f : FE) (ρ : En) (μ : Mu) : dlensetX f ρ μ = (f ρ μ).bind fun d μ1 => match d with
 | .lst ds => R.of ((setLen ds).map fun n : Nat => D.int (n : Int)) μ1
 | _ => .bad := of_eq_true (eq_self _)
theorem de_lensetX {X : Cx} {E : WX} {a : Expr} {fa : FE} {p p2 q pos : Pos} (hm : X.mg "len" = none) (hm2 : X.mg "set" = none) (ha : DE X E a fa) (hc : X.calm = true := by rfl) (hg : Gl X "len" := by rfl) (hg2 : Gl X "set" := by rfl)
  (na : starEach [a] X.env = (false, eval a X.env) :: starEach [] X.env := by rfl) : DE X E (.Call (.Name "len" p) [.Call (.Name "set" p2) [a] [] q] [] pos) (dlensetX fa) := by
 constructor
 intro pins s σ H Q I rd
 obtain ⟨W, ρ, μ, ok, en, z⟩ := rd
 unfold dlensetX at z
 have inner : rE X.K E fa σ H (fun x H1 => ∃ l, x = .ref l ∧ ((∃ ns : List Int, SqL X.K H1 l (ns.map V.int) ∧ ns.length ≤ 1000 ∧ Q (.int (kinds ns)) H1) ∨ ∃ xs : List Str, SqL X.K H1 l (xs.map V.str) ∧ xs.length ≤ 1000 ∧ Q (.int (met xs xs.length).length) H1)) := seq z ok en fun d μ1 W1 v H1 g1 o1 en1 r z1 => by
  cases r with
  | lst zz h rs =>
   dsimp only at z1
   unfold setLen at z1
   split at z1
   ·rename_i ns hns
    have e := intsD_rep rs hns
    subst e
    split at z1
    ·rename_i hl
     exact ⟨_, rfl, .inl ⟨ns, (same_lq o1.sub h).sq, hl, post_pure o1 z1 (.int _)⟩⟩
    ·exact z1.elim
   ·split at z1
    ·rename_i xs hxs
     have e := strsD_rep rs hxs
     subst e
     split at z1
     ·rename_i hl
      exact ⟨_, rfl, .inr ⟨xs, (same_lq o1.sub h).sq, hl, post_pure o1 z1 (.int _)⟩⟩
     ·exact z1.elim
    ·exact z1.elim
  | _ => exact z1.elim
 refine PyProof.Rows.Call_ (ld_blt I hg hm PySem.boot_len (PyProof.Rows.callWith_builtin1 (PyProof.Rows.args_cons ?_ rfl) rfl rfl))
 refine PyProof.Rows.Call_ (ld_blt I hg2 hm2 PyProof.Rows.boot_set (PyProof.Rows.callWith_type1 (PyProof.Rows.args_cons (thn (ha.run pins s σ H _ I inner) fun v s1 hv => PyProof.Rows.args_nil ?_) na) na rfl))
 obtain ⟨y, H1, I1, w1, l, ey, alt⟩ := hv
 subst ey
 cases w1
 rcases alt with ⟨ns, sq, hl, fin⟩ | ⟨xs, sq, hl, fin⟩
 ·obtain ⟨its, rv, pl, _⟩ := I1.list sq
  have hsz : its.toArray.size = ns.length := by
   rw [List.size_toArray, ← rv.length, List.length_map]
  refine PySem.call_set_list (I1.ok.hd hc) pl.isList (ns := ns) (by simpa using vals_ints rv) (by rw [hsz]; unfold scanBound; omega) fun h' tk made old => PyProof.Rows.args_nil ?_
  rw [hsz] at made
  obtain ⟨ob, en', ep, tt, ho, hex, hd, _, _, _, hf, hn⟩ := made
  have few : (PyProof.Rows.firstMet (fun i => ns.getD i 0) ns.length).length ≤ ns.length := PyProof.Rows.firstMet_length_le _ _
  exact call_len_set ho hex hd hf (by rw [hn]; omega) ⟨.int (kinds ns), H1, (I1.kept fun b o e => old b o (Heap.lt_size e) e).tok _, ⟨_, by rw [hn]; rfl⟩, fin⟩
 ·obtain ⟨its, rv, pl, _⟩ := I1.list sq
  refine call_set_met (I1.ok.hd hc) pl.isList (xs := xs) (by simpa using rv.strs) (by unfold scanBound; omega) fun h' tk made old => PyProof.Rows.args_nil ?_
  obtain ⟨ob, en', ep, tt, ho, hex, hd, _, _, _, hf, hn⟩ := made
  have few := met_len xs xs.length (Nat.le_refl _)
  exact call_len_set ho hex hd hf (by rw [hn]; omega) ⟨.int (met xs xs.length).length, H1, (I1.kept fun b o e => old b o (Heap.lt_size e) e).tok _, ⟨_, by rw [hn]⟩, fin⟩
/-! ### f-strings -/
def fmtD : D → Option Str
 | .str y => some y
 | .int i => if i.natAbs.log2 < 1920 then some (toString i) else none
 | _ => none
/-- a text, where it is short enough -/
def shortS (o : Option Str) : Option D := match o with
 | some x => if x.length ≤ 1000000 then some (.str x) else none
 | none => none
def dfmt (f : FE) : FE := fun ρ μ => (f ρ μ).bind fun d μ1 => R.of (shortS (fmtD d)) μ1
@[simp] theorem ap_fmt (f : FE) (ρ : En) (μ : Mu) : dfmt f ρ μ = (f ρ μ).bind fun d μ1 => R.of (shortS (fmtD d)) μ1 := of_eq_true (eq_self _)
/-- the parts one behind the other -/
def joinF : List FE → Str → En → Mu → R D
 | [], acc, _, μ => .ok (.str acc) μ
 | f :: fs, acc, ρ, μ => (f ρ μ).bind fun d μ1 => match d with
  | .str y => if acc.length + y.length ≤ 1000000 then joinF fs (acc ++ y) ρ μ1 else .bad
  | _ => .bad
def djoin (fs : List FE) : FE := fun ρ μ => joinF fs Str.empty ρ μ
@[simp] theorem ap_join (fs : List FE) (ρ : En) (μ : Mu) : djoin fs ρ μ = joinF fs Str.empty ρ μ := of_eq_true (eq_self _)
section
variable {X : Cx} {E : WX} {e : Expr} {fe : FE} {pos : Pos}
theorem de_fmt (he : DE X E e fe) : DE X E (.FormattedValue e (-1) none pos) (dfmt fe) := pe_imp (pe_fmt he) fun σ H Q ⟨W, ρ, μ, ok, en, p⟩ => by
 refine seq p ok en fun d μ1 W1 v H1 g1 o1 en1 r p1 => ?_
 unfold shortS fmtD at p1
 cases d with
 | str y =>
  cases r with
  | str _ z =>
   dsimp only at p1
   split at p1
   ·exact .inl ⟨y, rfl, z, post_pure o1 p1 (.str _ z)⟩
   ·exact p1.elim
 | int i =>
  cases r
  dsimp only at p1
  by_cases h : i.natAbs.log2 < 1920
  ·rw [if_pos h] at p1
   dsimp only at p1
   split at p1
   ·rename_i hl
    exact .inr ⟨i, rfl, h, post_pure o1 p1 (.str _ (le_line hl))⟩
   ·exact p1.elim
  ·rw [if_neg h] at p1
   exact p1.elim
 | _ => exact p1.elim
inductive DJ (X : Cx) (E : WX) : List Expr → List FE → Prop
 | nil : DJ X E [] []
 | cons {e : Expr} {f : FE} {es : List Expr} {fs : List FE} (h : DE X E e f) (r : DJ X E es fs) : DJ X E (e :: es) (f :: fs)
theorem DJ.pj {es : List Expr} {fs : List FE} (h : DJ X E es fs) : PJ X es (fs.map (rE X.K E)) := by
 induction h with
 | nil => exact .nil
 | cons h r ih => exact .cons h ih
theorem join_js : ∀ (fs : List FE) (acc : Str) (σ : L2.St) (H : Hp) (Q : VK) (W : Wd) (ρ : En) (μ : Mu), acc.length ≤ sizeLine → Ok X.K W H μ → Envs X.K W σ ρ → postE X.K (WE E σ) W H (joinF fs acc ρ μ) Q → tJs (fs.map (rE X.K E)) acc σ H fun out H1 => Q (.str out) H1
 | [], acc, σ, H, Q, W, ρ, μ, ha, ok, en, p => by
  unfold joinF at p
  exact post_pure ok p (.str _ ha)
 | f :: fs, acc, σ, H, Q, W, ρ, μ, ha, ok, en, p => by
  unfold joinF at p
  refine seq p ok en fun d μ1 W1 v H1 g1 o1 en1 r p1 => ?_
  cases d with
  | str y =>
   cases r
   dsimp only at p1
   split at p1
   ·rename_i hl
    have h2 : (acc ++ y).length ≤ sizeLine := by rw [strlen_app]; exact le_line hl
    exact ⟨y, rfl, h2, join_js fs (acc ++ y) σ H1 Q W1 ρ μ1 h2 o1 en1 p1⟩
   ·exact p1.elim
  | _ => exact p1.elim
theorem de_joined {v1 v2 : Expr} {rest : List Expr} {fs : List FE} (h : DJ X E (v1 :: v2 :: rest) fs) : DE X E (.JoinedStr (v1 :: v2 :: rest) pos) (djoin fs) :=
 pe_imp (pe_joined h.pj) fun σ H Q ⟨W, ρ, μ, ok, en, p⟩ => join_js fs Str.empty σ H Q W ρ μ (Nat.zero_le _) ok en p
end
end DL
/-! DL23: == by an own __eq__. -/
namespace DL
open PySem L2 PySem.Spec PyProof.Rows
/-- the type of what stands at the right -/
def tyW (μ : Mu) : D → Option Ty
 | .non => some (.blt "NoneType")
 | .bl _ => some (.blt "bool")
 | .int _ => some (.blt "int")
 | .str _ => some (.blt "str")
 | .tup _ => some (.blt "tuple")
 | .lst _ => some (.blt "list")
 | d => match insD μ d with
  | some (C, _) => some (.own C)
  | none => none
theorem looks_obj {M : Model} {h : Heap} {a : Addr} {o : Obj} (e : h.get? a = some o) : PySem.W.Looks M h (typeOf (.ref a)) o.cls := (PySem.W.Looks.ld e).andThen .now
section
variable {X : Cx} {E : WX} {pins : List (Addr × Obj)} {σ : L2.St} {H : Hp} {s : Shared}
theorem ins_inst {a C dx : Addr} {fs : List (Str × V)} (I : Inv X pins σ H s) (e : H a = some (.ins C dx fs)) : ∃ od : Obj, PySem.W.InstAt s.heap a (PySem.W.instObj C dx) C (some od) := by
 obtain ⟨mA, O, r, wi, _, ho⟩ := ins_get I.hok e
 obtain ⟨od, hod, hl⟩ := lookIn_ns O.ns
 exact ⟨od, O.obj, rfl, rfl, hod⟩
theorem looks_ty {W : Wd} {μ : Mu} {v : V} {d : D} {u : Value} {t : Ty} (I : Inv X pins σ H s) (ok : Ok X.K W H μ) (r : Rep X.K W v d) (rv : RelV v u) (h : tyW μ d = some t) : PySem.W.Looks (model X.prog X.w) s.heap (typeOf u) (t.val X.K) := by
 have own : ∀ {C : Nat} {fs : List (Str × D)}, insD μ d = some (C, fs) → PySem.W.Looks (model X.prog X.w) s.heap (typeOf u) (.ref (cl X.K C)) := fun hi => by
  obtain ⟨a, dx, ns, vs, ds, rfl, ha, _, _⟩ := ins_rep ok r hi
  cases rv
  obtain ⟨od, J⟩ := ins_inst I ha
  exact J.type
 have via : (match insD μ d with | some (C, _) => some (Ty.own C) | none => none) = some t → PySem.W.Looks (model X.prog X.w) s.heap (typeOf u) (t.val X.K) := fun z => by
  cases hi : insD μ d with
  | none => rw [hi] at z; cases z
  | some q =>
   obtain ⟨C, fs⟩ := q
   rw [hi] at z
   cases z
   exact own hi
 cases r with
 | non => cases h; cases rv; exact PySem.W.Looks.of_pure rfl
 | bl b => cases h; cases rv; exact PySem.W.Looks.of_pure rfl
 | int i => cases h; obtain ⟨tk, rfl⟩ := rv; exact PySem.W.Looks.of_pure rfl
 | str x z => cases h; obtain ⟨tk, rfl⟩ := rv; exact PySem.W.Looks.of_pure rfl
 | tup z h1 q =>
  cases h
  cases rv
  obtain ⟨its, _, ⟨o, ho, hc, _⟩, _⟩ := I.tuple (same_t ok.sub h1)
  show PySem.W.Looks _ _ _ (Value.type "tuple")
  rw [← hc]
  exact looks_obj ho
 | lst z h1 q =>
  cases h
  cases rv
  obtain ⟨its, n, _, e⟩ := (same_lq ok.sub h1).isL I
  exact looks_obj e
 | hdl ha => exact via h
 | cst v => cases h
 | glo c => exact via h
 | obj h1 e rs => exact via h
 | exc h1 rs => exact via h
 | dtc h1 h2 rs => exact via h
theorem Cal.quiet {X : Cx} {E : WX} {k : Nat} (c : Cal X E k) : Cal X E0 k := ⟨c.room, c.guards, take0⟩
end
end DL
/-! DL24: != by an own __eq__, str(o), repr(o) by own __str__, __repr__. -/
namespace DL
open PySem L2 PySem.Spec PyProof.Rows
section
variable {X : Cx} {E : WX} {k C : Nat} {f : Addr} {fd : FuncData} {ps : List Str} {F : List D → Mu → R D} {pins : List (Addr × Obj)} {σ : L2.St} {H : Hp} {s : Shared} {Q : VK} {us : List Value} {vs : List V} {W : Wd} {ds : List D} {μ : Mu} {n : Nat} {dd : List D}
/-- a call below a built-in -/
theorem callF_at {A : Around} (hA : Room k A) (hg : A.guards = some []) (he : Env0 X.prog X.w X.K X.mg X.base A X.stack s H) (G : FnG X.prog X.w X.K X.mg X.base k f fd ps F) (hx : ∀ σ, PassesAt (L2.CX X.prog X.w) X σ (WE E σ)) (b : Dfl X.K fd ps n dd)
  (I : Inv X pins σ H s) (hn : us.length = n) (rv : Vals vs us) (ok : Ok X.K W H μ) (r : Reps X.K W vs ds) (q : postE X.K (WE E σ) W H (F (ds ++ dd) μ) Q) : wpAny (model X.prog X.w) A (call (.ref f) us) (EP X pins σ Q) X.xe s := by
 obtain ⟨dvs, d0, r0, rd, hl, hb⟩ := b.ex
 have hlen : (us ++ d0).length = ps.length := by rw [List.length_append, hn]; exact hl
 refine wpAny_call (codeAny_mono (G.run A X.stack s H ⟨us, []⟩ (us ++ d0) (vs ++ dvs) Q (WE E σ) W (ds ++ dd) μ hA hg he hlen (hb s us I.kIn hlen) (rv.append r0) ok (r.app (rd W)) q) fun z s2 hz => ?_)
 match z, hz with
 | .error e, hz => exact hx σ pins H s e s2 I hz
 | .ok (.ret u), hz => exact I.after hz
end
theorem ifBound_B {M : Model} {A : Around} {E : Value → Shared → Prop} {s : Shared} {K : PySem.W.Frag} {x C : Addr} {ox : Obj} {od : Option Obj} {name : Str} {id : String} {args : List Value} {Q : Option Value → Shared → Prop} (X : K.In s.heap) (I : PySem.W.InstAt s.heap x ox C od)
  (hs : PySem.W.findIn K (.ref C) name = some (some (.builtin id))) (hb : ∀ self, bindSpecial (.builtin id) self = pure (.builtin id, [self])) (h : wpAny M A (call (.builtin id) (.ref x :: args)) (fun v => Q (some v)) E s) : wpAny M A (callSpecialIfBound? (.ref x) name args) Q E s := by
 simp only [callSpecialIfBound?, bindSpecialIfBound?]
 refine wpAny_holding (wpAny_bind (wpAny_bind (wpAny_bind (I.type.here ((PySem.W.looks_findIn X hs).here ?_)))))
 simp only [hb]
 refine wpAny_bind (wpAny_askSetting (wpAny_ite ?_))
 have fin : wpAny M A (call (.builtin id) ([.ref x] ++ args) >>= fun v => pure (some v)) Q E s := wpAny_bind (wpAny_mono h (fun v s' z => wpAny_pure z) fun _ _ z => z)
 split
 ·exact wpAny_bind (wpAny_pure (wpAny_pure fin))
 ·exact wpAny_tryCatch (wpAny_bind (wpAny_pure (wpAny_pure fin)))
section
variable {prog : Program} {w : World} {A : Around} {E : Value → Shared → Prop} {s : Shared} {K : PySem.W.Frag} {x C f L : Addr} {h₀ : Heap} {m : Str → Option Value} {ox : Obj} {od : Option Obj} {b tb : Value}
open Builtin in
theorem ne_slot {Q : Value → Shared → Prop} (hu : A.in1.units < cLine) (X : K.In s.heap) (I : PySem.W.InstAt s.heap x ox C od) (hm : PySem.W.mroIn K C (.type "object") = some true) (hs : PySem.W.findIn K (.ref C) "__eq__" = some (some (.ref f))) (hf : PySem.W.isFn K (.ref f) = true)
  (h : wpAny (model prog w) A.in1 (call (.ref f) [.ref x, b]) (PySem.W.BoolBack fun r s' => Q (.bool (!r)) s') E s) : wpAny (model prog w) A (call (.builtin "object.__ne__") [.ref x, b]) Q E s := by
 refine wpAny_call (codeAny_call_builtin (by decide +kernel) PySem.F.cmpEntry_ne (PySem.W.check_slot (i := "object.__ne__") (owner := "object") (n := "__ne__") PySem.F.cmpKind_ne PySem.F.cmpSplit_ne (I.type.andThen (PySem.W.looks_mroIn X hm)) (PySem.F.cmpArgs_ne _ _) ?_))
 unfold Builtin.«object.__ne__»
 refine wpAny_bind (m := slotArgs "__ne__" 1 _) (wpAny_pure ?_)
 refine wpAny_bind (m := cRoomFor _ _) (wpAny_cRoomFor hu ?_)
 refine wpAny_bind (m := callSpecialIfBound? (.ref x) (Str.ofString "__eq__") _) (PySem.W.ifBound_K X I hs hf (wpAny_mono h (fun r s' hq => ?_) fun _ _ y => y))
 cases r <;> first | exact hq.elim | exact wpAny_bind (wpAny_pure (wpAny_pure hq))
end
section
variable {prog : Program} {w : World} {A : Around} {E : Value → Shared → Prop} {s : Shared} {K : PySem.W.Frag} {x C f L : Addr} {h₀ : Heap} {m : Str → Option Value} {ox : Obj} {od : Option Obj} {b tb : Value}
theorem ne_K {Q : Value → Shared → Prop} (hu : A.units + 1 < cLine) (X : K.In s.heap) (I : PySem.W.InstAt s.heap x ox C od) (hb : PySem.W.Looks (model prog w) s.heap (typeOf b) tb) (hn : PySem.W.notFirst K C tb = true)
  (hne : PySem.W.findIn K (.ref C) "__ne__" = some (some (.builtin "object.__ne__"))) (hm : PySem.W.mroIn K C (.type "object") = some true) (hs : PySem.W.findIn K (.ref C) "__eq__" = some (some (.ref f))) (hf : PySem.W.isFn K (.ref f) = true)
  (h : wpAny (model prog w) A.in1 (call (.ref f) [.ref x, b]) (PySem.W.BoolBack fun r s' => Q (.bool (!r)) s') E s) : wpAny (model prog w) A (richCompare .NotEq (.ref x) b) Q E s := by
 have bd : ∀ self, bindSpecial (.builtin "object.__ne__") self = pure (.builtin "object.__ne__", [self]) := PySem.F.slot_object_ne.bind
 have one : wpAny (model prog w) A (tryCompare (.ref x) (cmpInfo .NotEq).2.1 b) (fun r s' => ∃ v, r = some v ∧ Q v s') E s := by
  unfold tryCompare
  refine wpAny_bind (ifBound_B X I hne bd (ne_slot hu X I hm hs hf (wpAny_mono h (fun v s' z => ?_) fun _ _ e => e)))
  cases v <;> first | exact z.elim | exact wpAny_pure ⟨_, rfl, z⟩
 unfold richCompare
 simp only [oneThing_ref]
 refine wpAny_holding (wpAny_bind (wpAny_cRoomFor (Nat.lt_of_succ_lt hu) ?_))
 refine wpAny_bind (I.type.here (wpAny_bind (hb.here ?_)))
 split
 ·rename_i q
  have e : PySem.W.subIn K tb (.ref C) = some false := by
   rcases Bool.or_eq_true_iff.mp hn with z | z
   ·rw [beq_iff_eq.mp z] at q
    simp at q
   ·exact beq_iff_eq.mp z
  refine wpAny_bind ((PySem.W.looks_subIn X e).here ?_)
  simp only [Bool.false_eq_true, if_false]
  refine wpAny_bind (wpAny_mono one (fun r s' z => ?_) fun _ _ z => z)
  obtain ⟨v, rfl, z⟩ := z
  exact wpAny_pure z
 ·refine wpAny_bind (wpAny_pure ?_)
  simp only [Bool.false_eq_true, if_false]
  refine wpAny_bind (wpAny_mono one (fun r s' z => ?_) fun _ _ z => z)
  obtain ⟨v, rfl, z⟩ := z
  exact wpAny_pure z
end
/-! ### as rules -/
def notB : R D → R D
 | .ok (.bl b) μ => .ok (.bl (!b)) μ
 | _ => .bad
/-- x != y, x of the class C with an own __eq__ alone -/
def neOwn (C : Nat) (F : List D → Mu → R D) (ts : List Ty) : D → D → Mu → R D := fun x y μ => match insD μ x, tyW μ y with
 | some (C', _), some t => if C' = C ∧ t ∈ ts then notB (F [x, y] μ) else .bad
 | _, _ => .bad
section
variable {X : Cx} {E : WX} {k C : Nat} {f : Addr} {fd : FuncData} {ps : List Str} {F : List D → Mu → R D} {ts : List Ty}
theorem Room.units1 {k : Nat} {A : Around} (r : Room (k + 1) A) : A.units + 1 < cLine := by have := r.un; omega
theorem opx_neOwn (G : FnG X.prog X.w X.K X.mg X.base k f fd ps F) (c : Cal X E (k + 1)) (b : Dfl X.K fd ps 2 []) (hne : PySem.W.findIn X.K (.ref (cl X.K C)) "__ne__" = some (some (.builtin "object.__ne__"))) (hm : PySem.W.mroIn X.K (cl X.K C) (.type "object") = some true)
  (hs : PySem.W.findIn X.K (.ref (cl X.K C)) "__eq__" = some (some (.ref f))) (hf : PySem.W.isFn X.K (.ref f) = true) (hts : ∀ t ∈ ts, PySem.W.notFirst X.K (cl X.K C) (t.val X.K) = true) : OpX X E (compareOp .NotEq) (neOwn C F ts) := by
 intro pins s σ H x y v u Q I rx ry q
 obtain ⟨E', W, μ, dx, dy, ok, r1, r2, p⟩ := q
 unfold neOwn at p
 split at p
 ·rename_i C' fs t hi ht
  split at p
  ·rename_i hq
   obtain ⟨rfl, hmem⟩ := hq
   have lk := looks_ty I ok r2 ry ht
   obtain ⟨a, dd, ns, vs, ds, rfl, ha, _, _⟩ := ins_rep ok r1 hi
   cases rx
   obtain ⟨od, J⟩ := ins_inst I ha
   show wpAny _ _ (richCompare .NotEq (.ref a) u) _ _ _
   refine ne_K (Room.units1 c.room) I.kIn J lk (hts t hmem) hne hm hs hf ?_
   have p' : postE X.K (WE E0 σ) W H (F ([dx, dy] ++ []) μ) (fun z H' => ∃ bb, z = .bl bb ∧ Q (.bl (!bb)) H') := by
    rw [List.append_nil]
    revert p
    cases F [dx, dy] μ with
    | ok d μ1 =>
     intro p W' v' H' g' o' r'
     cases r' with
     | bl bb => exact ⟨bb, rfl, p W' _ H' g' o' (.bl _)⟩
     | _ => exact p.elim
    | ex c fs μ1 => exact fun p => p.elim
    | bad => exact fun p => p
   refine wpAny_mono (callF_at (us := [.ref a, u]) (vs := [.ref a, y]) (n := 2) (ds := [dx, dy]) (Room.in1 c.room) c.guards I.env0.in1 G pass0 b I rfl (.cons rfl (.cons ry .nil)) ok (.cons r1 (.cons r2 .nil)) p') (fun w s' z => ?_) fun _ _ e => e
   obtain ⟨z', H', I', rz, bb, rfl, qz⟩ := z
   cases rz
   exact ⟨.bl (!bb), H', I', rfl, qz⟩
  ·exact p.elim
 ·exact p.elim
end
end DL
/-! DL25: data of the module's own, one of two readings, defs apart. -/
namespace DL
open PySem L2 PySem.Spec PyProof.Rows
mutual
theorem holdV_rep {K : PySem.W.Frag} : ∀ (n : Nat) (u : Value) (d : D), holdV K n u d = true → ∃ v, RelV v u ∧ ∀ W, Rep K W v d
 | n, u, .non, h => by
  cases u <;> first | exact ⟨.non, rfl, fun _ => .non⟩ | (cases n <;> simp [holdV] at h)
 | n, u, .bl c, h => by
  cases u with
  | bool b =>
   have e : b = c := by cases n <;> simpa [holdV] using h
   subst e
   exact ⟨.bl b, rfl, fun _ => .bl b⟩
  | _ => cases n <;> simp [holdV] at h
 | n, u, .int j, h => by
  cases u with
  | int i t =>
   have e : i = j := by cases n <;> simpa [holdV] using h
   subst e
   exact ⟨.int i, ⟨t, rfl⟩, fun _ => .int i⟩
  | _ => cases n <;> simp [holdV] at h
 | n, u, .str y, h => by
  cases u with
  | str x t =>
   have e : x = y ∧ x.length ≤ 1000000 := by cases n <;> simpa [holdV] using h
   obtain ⟨rfl, hl⟩ := e
   exact ⟨.str x, ⟨t, rfl⟩, fun _ => .str x (le_line hl)⟩
  | _ => cases n <;> simp [holdV] at h
 | 0, u, .tup ds, h => by cases u <;> simp [holdV] at h
 | n + 1, u, .tup ds, h => by
  cases u with
  | ref a =>
   unfold holdV at h
   split at h
   ·rename_i o ho
    split at h
    ·rename_i its m hd
     simp only [Bool.and_eq_true, beq_iff_eq, decide_eq_true_eq] at h
     obtain ⟨hc, hz, hv⟩ := h
     obtain ⟨vs, rv, rp⟩ := holdVs_reps n its.toList ds hv
     have hl : its.size ≤ sizeLine := le_line hz
     refine ⟨.ref a, rfl, fun W => .tup ?_ (.inr ⟨o, its, m, ho, hc, hd, hl, rv⟩) (rp W)⟩
     rw [← (rp W).length, rv.length, Array.length_toList]
     exact hl
    ·cases h
   ·cases h
  | _ => simp [holdV] at h
 | n, u, .lst _, h => by cases n <;> cases u <;> simp [holdV] at h
 | n, u, .hdl _, h => by cases n <;> cases u <;> simp [holdV] at h
 | n, u, .cst _, h => by cases n <;> cases u <;> simp [holdV] at h
 | n, u, .obj _ _, h => by cases n <;> cases u <;> simp [holdV] at h
 | n, u, .glo _, h => by cases n <;> cases u <;> simp [holdV] at h
 | n, u, .exc _ _, h => by cases n <;> cases u <;> simp [holdV] at h
 | n, u, .dtc _ _, h => by cases n <;> cases u <;> simp [holdV] at h
theorem holdVs_reps {K : PySem.W.Frag} : ∀ (n : Nat) (us : List Value) (ds : List D), holdVs K n us ds = true → ∃ vs, Vals vs us ∧ ∀ W, Reps K W vs ds
 | n, [], [], _ => ⟨[], .nil, fun _ => .nil⟩
 | n, [], _ :: _, h => by cases n <;> simp [holdVs] at h
 | n, _ :: _, [], h => by cases n <;> simp [holdVs] at h
 | n, u :: us, d :: ds, h => by
  have h : (holdV K n u d && holdVs K n us ds) = true := by cases n <;> simpa [holdVs] using h
  rw [Bool.and_eq_true] at h
  obtain ⟨v, r, p⟩ := holdV_rep n u d h.1
  obtain ⟨vs, rs, ps⟩ := holdVs_reps n us ds h.2
  exact ⟨v :: vs, .cons r rs, fun W => .cons (p W) (ps W)⟩
end
theorem gloB_ok {K : PySem.W.Frag} {h : Heap} {mg : Str → Option Value} (X : K.In h) (G : h.Ns mainGlobals mg) {x : Str} {d : D} (c : gloB K x d = true) : ∃ u v, mg x = some u ∧ RelV v u ∧ ∀ W, Rep K W v d := by
 unfold gloB at c
 split at c
 ·rename_i u e
  obtain ⟨v, r, p⟩ := holdV_rep 8 u d c
  exact ⟨u, v, PySem.W.mg_of X G e, r, p⟩
 ·cases c
/-! ### one of two readings -/
theorem opx_if {X : Cx} {E : WX} {f : Value → Value → Sem Value} {g1 g2 : D → D → Mu → R D} (c : D → D → Mu → Bool) (h1 : OpX X E f g1) (h2 : OpX X E f g2) : OpX X E f (fun x y μ => if c x y μ = true then g1 x y μ else g2 x y μ) := by
 intro pins s σ H x y v u Q I rx ry q
 obtain ⟨E', W, μ, dx, dy, ok, r1, r2, p⟩ := q
 dsimp only at p
 by_cases hc : c dx dy μ = true
 ·rw [if_pos hc] at p
  exact h1 pins s σ H x y v u Q I rx ry ⟨E', W, μ, dx, dy, ok, r1, r2, p⟩
 ·rw [if_neg hc] at p
  exact h2 pins s σ H x y v u Q I rx ry ⟨E', W, μ, dx, dy, ok, r1, r2, p⟩
def neP (C : Nat) (F : List D → Mu → R D) (ts : List Ty) : D → D → Mu → R D := fun x y μ => if (insD μ x).isSome = true then neOwn C F ts x y μ else dNeX x y μ
/-! ### defs apart -/
theorem FunD.ne {K : PySem.W.Frag} {x x' q q' : Str} {p p' : Arguments} {b b' : List Stmt} {sc sc' : Scope} {dv dv' : List V} {kw kw' : List (Str × V)} {f f' : Addr} {fd fd' : FuncData} (F : FunD K x q p b sc dv kw f fd) (F' : FunD K x' q' p' b' sc' dv' kw' f' fd') (h : x ≠ x') : f ≠ f' := by
 rintro rfl
 obtain ⟨oc, od, dV, kV, doc, pm, an, cdv, ct, osl, rfl, lk, _⟩ := F.ex
 obtain ⟨oc', od', dV', kV', doc', pm', an', cdv', ct', osl', rfl, lk', _⟩ := F'.ex
 have e := lk.symm.trans lk'
 have e2 : PySem.W.fnOf x q p b sc dV kV doc pm an cdv ct = PySem.W.fnOf x' q' p' b' sc' dV' kV' doc' pm' an' cdv' ct' := by
  injection e with e
  injection e with e1 e2 e3 e4
  injection e3
 have e3 := congrArg FuncData.name e2
 exact h e3
end DL
/-! DL26: facts of classes by Bools of the written part. -/
namespace DL
open PySem L2 PySem.Spec PyProof.Rows
theorem isCB_ok {K : PySem.W.Frag} {C : Nat} (c : Cls K (cl K C)) (h : isCB K C = true) : IsC K (cl K C) := by
 unfold isCB at h
 simp only [Bool.and_eq_true, decide_eq_true_eq] at h
 exact ⟨c, h.1, h.2.1, h.2.2.1, h.2.2.2⟩
theorem ktB_ok {K : PySem.W.Frag} {c : Ty} {yes no : List Ty} (h : ktB K c yes no = true) : ∀ t b, ktL yes no t = some b → PySem.W.kitOne K (t.val K) (c.val K) = some b := by
 unfold ktB at h
 simp only [Bool.and_eq_true, decide_eq_true_eq, List.all_eq_true] at h
 obtain ⟨h1, h2⟩ := h
 intro t b e
 unfold ktL at e
 split at e
 ·rename_i m
  cases e
  exact h1 t m
 ·split at e
  ·rename_i m
   cases e
   exact h2 t m
  ·cases e
theorem nfB_ok {K : PySem.W.Frag} {C : Nat} {ts : List Ty} (h : nfB K C ts = true) : ∀ t ∈ ts, PySem.W.notFirst K (cl K C) (t.val K) = true := List.all_eq_true.mp h
end DL
/-! DL27: what the head tells, in the form that the tops want. -/
namespace DL
open PySem L2 PySem.Spec PyProof.Rows
theorem holdV_ref {K : PySem.W.Frag} {n : Nat} {a : Addr} {d : D} (h : holdV K n (.ref a) d = true) : ∀ W, Rep K W (.ref a) d := by
 obtain ⟨v, r, p⟩ := holdV_rep n _ d h
 have e : v = .ref a := by
  cases v <;> first | (cases r; rfl) | (obtain ⟨_, r⟩ := r; cases r) | (cases r) | skip
 rw [← e]
 exact p
noncomputable def gloB_sub {K : PySem.W.Frag} {h : Heap} {mg : Str → Option Value} (X : K.In h) (G : h.Ns mainGlobals mg) {x : Str} {d : D} (c : gloB K x d = true) : { q : Value × V // mg x = some q.1 ∧ RelV q.2 q.1 ∧ ∀ W, Rep K W q.2 d } :=
 ⟨(Classical.choose (gloB_ok X G c), Classical.choose (Classical.choose_spec (gloB_ok X G c))), Classical.choose_spec (Classical.choose_spec (gloB_ok X G c))⟩
end DL
/-! DL28: tuple, list, sorted of a list that changes. -/
namespace DL
open PySem L2 PySem.Spec PyProof.Rows
/-- the list that stands at a handle -/
def thaw (μ : Mu) : D → D
 | .hdl l => match μ[l]? with
  | some (.lst xs) => if xs.length ≤ 1000000 then .lst xs else .hdl l
  | _ => .hdl l
 | d => d
theorem thaw_lq {K : PySem.W.Frag} {W : Wd} {H : Hp} {μ : Mu} {v : V} {d : D} {xs : List D} (ok : Ok K W H μ) (r : Rep K W v d) (h : thaw μ d = .lst xs) : ∃ a vs, v = .ref a ∧ Lq K H a vs ∧ Reps K W vs xs ∧ xs.length ≤ sizeLine := by
 cases r with
 | lst z h1 q =>
  simp [thaw] at h
  subst h
  exact ⟨_, _, rfl, same_lq ok.sub h1, q, z⟩
 | @hdl a l ha =>
  unfold thaw at h
  dsimp only at h
  cases hm : μ[l]? with
  | none => rw [hm] at h; cases h
  | some m =>
   rw [hm] at h
   cases m with
   | lst ys =>
    dsimp only at h
    split at h
    ·rename_i hz
     cases h
     obtain ⟨o, ho, vs, rfl, rs⟩ := ok.cell l a _ ha hm
     exact ⟨a, vs, rfl, .inl (.inl ho), rs, le_line hz⟩
    ·cases h
   | _ => cases h
 | _ => simp [thaw] at h
def bTupleX : List D → Mu → R D
 | [d], μ => match thaw μ d with
  | .lst xs => .ok (.tup xs) μ
  | .tup xs => .ok (.tup xs) μ
  | _ => .bad
 | _, _ => .bad
@[simp] theorem tupleX_lst (xs : List D) (μ : Mu) : bTupleX [.lst xs] μ = .ok (.tup xs) μ := of_eq_true (eq_self _)
@[simp] theorem tupleX_tup (xs : List D) (μ : Mu) : bTupleX [.tup xs] μ = .ok (.tup xs) μ := of_eq_true (eq_self _)
theorem tupleX_hdl {μ : Mu} {l : Nat} {xs : List D} (h : μ[l]? = some (.lst xs)) (z : xs.length ≤ 1000000) : bTupleX [.hdl l] μ = .ok (.tup xs) μ := by simp [bTupleX, thaw, h, z]
theorem thaw_tup {μ : Mu} {d : D} {xs : List D} (h : thaw μ d = .tup xs) : d = .tup xs := by
 cases d with
 | hdl l =>
  unfold thaw at h
  dsimp only at h
  split at h
  ·split at h <;> cases h
  ·cases h
 | _ => simpa [thaw] using h
section
variable {X : Cx} {E : WX}
theorem cx_tupleX : CallX X E (.type "tuple") bTupleX := callx fun W H μ ds xs Q ok r p => by
 unfold bTupleX at p
 split at p
 ·cases r with
  | cons r1 r2 =>
   cases r2
   split at p
   ·rename_i ys ht
    obtain ⟨a, vs, rfl, h, rs, z⟩ := thaw_lq ok r1 ht
    exact ⟨_, call_tuple_of, _, _, rfl, .inl ⟨h.sq, fun l hl => p _ _ _ (Go.new ok hl) (ok.new hl) (rep_tup ok hl z rs)⟩⟩
   ·rename_i ys ht
    have e := thaw_tup ht
    subst e
    cases r1 with
    | tup z h q => exact ⟨_, call_tuple_of, _, _, rfl, .inr ⟨same_t ok.sub h, p W _ H (Go.refl _ _) ok (.tup z h q)⟩⟩
   ·exact p.elim
 ·exact p.elim
end
end DL
/-! DL29: small plain data: its text, == and != of it. -/
namespace DL
open PySem L2 PySem.Spec PyProof.Rows
/-- numbers, texts and tuples of them, so many at each depth -/
def tm : List Nat → D → Bool
 | _, .int i => decide (i.natAbs < 10 ^ 11)
 | _, .str x => decide (x.cps.size ≤ 40) && x.cps.toList.all fun c => decide (c < 128)
 | a :: as, .tup xs => decide (xs.length ≤ a) && xs.all (tm as)
 | _, _ => false
def bulkB : List Nat → Nat
 | [] => 40
 | a :: as => 40 + a * (bulkB as + 1)
structure PyOk (n b : Nat) (p : PyData) : Prop where
 h1 : p.leavesShort 13 = true
 h2 : p.showable = true
 h3 : p.hasDict = false
 h4 : p.depth ≤ n
 h5 : p.bulk ≤ b
 h6 : p.canLay0 = true
theorem bulkB_40 : ∀ as : List Nat, 40 ≤ bulkB as
 | [] => Nat.le_refl _
 | a :: as => by unfold bulkB; omega
theorem str_leaf {x : Str} (h : (x.cps.toList.all fun c => decide (c < 128)) = true) : (PyData.str x).leavesShort 13 = true := by
 simp only [List.all_eq_true, decide_eq_true_eq] at h
 simp only [PyData.leavesShort, List.all_eq_true, decide_eq_true_eq]
 exact fun c hc => Nat.lt_trans (h c hc) (by decide)
theorem str_lay {x : Str} (h : (x.cps.toList.all fun c => decide (c < 128)) = true) : (PyData.str x).canLay0 = true := by
 simp only [List.all_eq_true, decide_eq_true_eq] at h
 simp only [PyData.canLay0, PyData.strOk]
 rw [← Array.all_toList]
 simp only [List.all_eq_true, decide_eq_true_eq]
 exact fun c hc => Nat.lt_trans (h c hc) (by decide)
theorem tm_py : ∀ (as : List Nat) (d : D), tm as d = true → ∃ p, d.py = some p ∧ PyOk as.length (bulkB as) p := by
 intro as
 induction as with
 | nil =>
  intro d h
  cases d with
  | int i =>
   have hi : i.natAbs < 10 ^ 11 := by simpa [tm] using h
   exact ⟨.int i, by simp [D.py], ⟨by simp [PyData.leavesShort]; exact PyData.shown_int_le2 (by omega) (by omega), by simp [PyData.showable]; exact lt_log (by omega), by simp [PyData.hasDict], by simp [PyData.depth], by simp [PyData.bulk], by simp [PyData.canLay0]⟩⟩
  | str x =>
   simp only [tm, Bool.and_eq_true, decide_eq_true_eq] at h
   exact ⟨.str x, by simp [D.py], ⟨str_leaf h.2, by simp [PyData.showable], by simp [PyData.hasDict], by simp [PyData.depth], by simp only [PyData.bulk]; exact h.1, str_lay h.2⟩⟩
  | _ => simp [tm] at h
 | cons a as ih =>
  intro d h
  cases d with
  | int i =>
   have hi : i.natAbs < 10 ^ 11 := by simpa [tm] using h
   exact ⟨.int i, by simp [D.py], ⟨by simp [PyData.leavesShort]; exact PyData.shown_int_le2 (by omega) (by omega), by simp [PyData.showable]; exact lt_log (by omega), by simp [PyData.hasDict], by simp [PyData.depth], by simp [PyData.bulk], by simp [PyData.canLay0]⟩⟩
  | str x =>
   simp only [tm, Bool.and_eq_true, decide_eq_true_eq] at h
   exact ⟨.str x, by simp [D.py], ⟨str_leaf h.2, by simp [PyData.showable], by simp [PyData.hasDict], by simp [PyData.depth], by simp only [PyData.bulk]; exact Nat.le_trans h.1 (bulkB_40 _), str_lay h.2⟩⟩
  | tup xs =>
   simp only [tm, Bool.and_eq_true, decide_eq_true_eq, List.all_eq_true] at h
   obtain ⟨hl, hx⟩ := h
   have key : ∀ ys : List D, (∀ y ∈ ys, tm as y = true) → ∃ ps, D.pys ys = some ps ∧ PyData.leavesShortAll 13 ps = true ∧ PyData.showableAll ps = true ∧ PyData.hasDictAll ps = false ∧ PyData.depthAll ps ≤ as.length ∧ PyData.bulkAll ps ≤ ys.length * (bulkB as + 1) ∧ PyData.canLayAll0 ps = true := by
    intro ys
    induction ys with
    | nil => exact fun _ => ⟨[], by simp [D.pys], by simp [PyData.leavesShortAll], by simp [PyData.showableAll], by simp [PyData.hasDictAll], by simp [PyData.depthAll], by simp [PyData.bulkAll], by simp [PyData.canLayAll0]⟩
    | cons y ys ihy =>
     intro hy
     obtain ⟨p, e1, q⟩ := ih y (hy y (by simp))
     obtain ⟨ps, e2, q1, q2, q3, q4, q5, q6⟩ := ihy fun z hz => hy z (List.mem_cons_of_mem _ hz)
     refine ⟨p :: ps, by simp [D.pys, e1, e2], by simp [PyData.leavesShortAll, q.h1, q1], by simp [PyData.showableAll, q.h2, q2], by simp [PyData.hasDictAll, q.h3, q3], ?_, ?_, by simp [PyData.canLayAll0, q.h6, q6]⟩
     ·have := q.h4
      simp only [PyData.depthAll]
      omega
     ·have := q.h5
      simp only [PyData.bulkAll, List.length_cons, Nat.add_mul]
      omega
   obtain ⟨ps, e, q1, q2, q3, q4, q5, q6⟩ := key xs hx
   refine ⟨.tuple ps, by simp [D.py, e], ⟨by simpa [PyData.leavesShort] using q1, by simpa [PyData.showable] using q2, by simpa [PyData.hasDict] using q3, by simp [PyData.depth]; exact q4, ?_, by simpa [PyData.canLay0] using q6⟩⟩
   have := Nat.mul_le_mul_right (bulkB as + 1) hl
   simp only [PyData.bulk, bulkB]
   omega
  | _ => simp [tm] at h
/-- no handle in it -/
theorem tm_closed : ∀ (as : List Nat) (d : D) (n : Nat), tm as d = true → d.closed n = true := by
 have cl : ∀ (n : Nat) (xs : List D), (∀ x ∈ xs, x.closed n = true) → D.closedL n xs = true := by
  intro n xs
  induction xs with
  | nil => exact fun _ => by simp [D.closedL]
  | cons x xs ih => exact fun h => by simp [D.closedL, h x (by simp), ih fun y hy => h y (List.mem_cons_of_mem _ hy)]
 intro as
 induction as with
 | nil => intro d n h; cases d <;> simp [tm] at h <;> simp [D.closed]
 | cons a as ih =>
  intro d n h
  cases d with
  | tup xs =>
   simp only [tm, Bool.and_eq_true, decide_eq_true_eq, List.all_eq_true] at h
   simp only [D.closed]
   exact cl n xs fun x hx => ih x n (h.2 x hx)
  | int i => simp [D.closed]
  | str x => simp [D.closed]
  | _ => simp [tm] at h
/-- == of it is = -/
theorem tm_eq : ∀ (as : List Nat) (n : Nat) (x y : D), as.length < n → tm as x = true → tm as y = true → ∃ b, eqD n x y = some b ∧ (b = true ↔ x = y) := by
 intro as
 induction as with
 | nil =>
  intro n x y hn hx hy
  obtain ⟨m, rfl⟩ : ∃ m, n = m + 1 := ⟨n - 1, by simp at hn; omega⟩
  cases x <;> simp [tm] at hx <;> cases y <;> simp [tm] at hy <;> simp [eqD, D.kd, eqV]
 | cons a as ih =>
  intro n x y hn hx hy
  obtain ⟨m, rfl⟩ : ∃ m, n = m + 1 := ⟨n - 1, by simp at hn; omega⟩
  have hm : as.length < m := by simp at hn; omega
  cases x with
  | int i => cases y <;> simp [tm] at hy <;> simp [eqD, D.kd, eqV]
  | str i => cases y <;> simp [tm] at hy <;> simp [eqD, D.kd, eqV]
  | tup xs =>
   cases y with
   | int i => exact ⟨false, by simp [eqD, D.kd], by simp⟩
   | str i => exact ⟨false, by simp [eqD, D.kd], by simp⟩
   | tup ys =>
    simp only [tm, Bool.and_eq_true, decide_eq_true_eq, List.all_eq_true] at hx hy
    have key : ∀ xs ys : List D, (∀ x ∈ xs, tm as x = true) → (∀ y ∈ ys, tm as y = true) → ∃ b, eqL (eqD m) xs ys = some b ∧ (b = true ↔ xs = ys) := by
     intro xs
     induction xs with
     | nil =>
      intro ys _ _
      cases ys with
      | nil => exact ⟨true, by simp [eqL], by simp⟩
      | cons y ys => exact ⟨false, by simp [eqL], by simp⟩
     | cons x xs ihx =>
      intro ys h1 h2
      cases ys with
      | nil => exact ⟨false, by simp [eqL], by simp⟩
      | cons y ys =>
       obtain ⟨b1, e1, i1⟩ := ih m x y hm (h1 x (by simp)) (h2 y (by simp))
       obtain ⟨b2, e2, i2⟩ := ihx ys (fun z hz => h1 z (List.mem_cons_of_mem _ hz)) fun z hz => h2 z (List.mem_cons_of_mem _ hz)
       refine ⟨b1 && b2, by simp [eqL, e1, e2], ?_⟩
       rw [Bool.and_eq_true, i1, i2, List.cons.injEq]
    obtain ⟨b, e, i⟩ := key xs ys hx.2 hy.2
    exact ⟨b, by simp [eqD, D.kd, e], by rw [i]; simp⟩
   | _ => simp [tm] at hy
  | _ => simp [tm] at hx
theorem tm_dEq {as : List Nat} {x y : D} (hx : tm as x = true) (hy : tm as y = true) (hn : as.length < 20) (μ : Mu) : ∃ b, dEq x y μ = .ok (.bl b) μ ∧ (b = true ↔ x = y) := by
 obtain ⟨b, e, i⟩ := tm_eq as 20 x y hn hx hy
 exact ⟨b, by simp [dEq, e], i⟩
end DL
/-! DL30: framed defs reckoned; counted loops; the laws' draws (with addX, mulX). -/
namespace DL
open PySem L2 PySem.Spec PyProof.Rows
theorem framed_ok {F : List D → Mu → R D} {ds : List D} {d : D} {μ μ1 : Mu} (hc : D.closedL 0 ds = true) (h : F ds [] = .ok d μ1) (hd : d.closed 0 = true) : framed F ds μ = .ok d μ := by
 unfold framed
 rw [if_pos hc, h]
 dsimp only
 rw [if_pos hd]
theorem framed_open {F : List D → Mu → R D} {ds : List D} {μ : Mu} (hc : D.closedL 0 ds = false) : framed F ds μ = F ds μ := by
 unfold framed
 rw [hc]
 simp
theorem trunc0 {d : D} {μ1 : Mu} (hd : d.closed 0 = true) : trunc 0 d μ1 = .ok d [] := by
 unfold trunc closedMu
 simp [hd]
/-- a framed def, by its body over no cells -/
theorem fr_ok {n : Nat} {g : FS} {ds : List D} {d : D} {μ μ1 : Mu} (hc : D.closedL 0 ds = true) (h : g (startD n ds) [] = .rt d μ1) (hd : d.closed 0 = true) : framed (callF n g) ds μ = .ok d μ := by
 refine framed_ok (μ1 := []) hc ?_ hd
 unfold callF
 rw [h]
 exact trunc0 hd
theorem open_hdl (l : Nat) (ds : List D) : D.closedL 0 (.hdl l :: ds) = false := by simp [D.closedL, D.closed]
theorem closed_of {n : Nat} : ∀ {xs : List D}, (∀ x ∈ xs, x.closed n = true) → D.closedL n xs = true
 | [], _ => by simp [D.closedL]
 | x :: xs, h => by simp [D.closedL, h x (by simp), closed_of (xs := xs) fun y hy => h y (List.mem_cons_of_mem _ hy)]
/-- side by side -/
inductive F2 {α β : Type} (P : α → β → Prop) : List α → List β → Prop
 | nil : F2 P [] []
 | cons {x : α} {y : β} {xs : List α} {ys : List β} : P x y → F2 P xs ys → F2 P (x :: xs) (y :: ys)
theorem F2.length {α β : Type} {P : α → β → Prop} : ∀ {xs : List α} {ys : List β}, F2 P xs ys → ys.length = xs.length
 | _, _, .nil => rfl
 | _, _, .cons _ h => by simp [h.length]
theorem F2.right {α β : Type} {P : α → β → Prop} : ∀ {xs : List α} {ys : List β}, F2 P xs ys → ∀ y ∈ ys, ∃ x ∈ xs, P x y
 | _, _, .nil, _, h => by cases h
 | _, _, .cons (x := x) p t, y, h => by
  rcases List.mem_cons.mp h with rfl | h
  ·exact ⟨x, by simp, p⟩
  ·obtain ⟨z, hz, q⟩ := t.right y h
   exact ⟨z, List.mem_cons_of_mem _ hz, q⟩
theorem F2.eq {α : Type} : ∀ {xs ys : List α}, F2 (fun x y => y = x) xs ys → ys = xs
 | _, _, .nil => rfl
 | _, _, .cons p h => by rw [p, h.eq]
/-- two memories that differ at the pool alone -/
structure Step (l : Nat) (μ μ' : Mu) : Prop where
 pool : Pool μ' l
 len : μ'.length = μ.length
 at_ : ∀ i, i ≠ l → μ'[i]? = μ[i]?
theorem Step.refl {l : Nat} {μ : Mu} (h : Pool μ l) : Step l μ μ := ⟨h, rfl, fun _ _ => rfl⟩
theorem Step.trans {l : Nat} {μ μ1 μ2 : Mu} (a : Step l μ μ1) (b : Step l μ1 μ2) : Step l μ μ2 := ⟨b.pool, b.len.trans a.len, fun i h => (b.at_ i h).trans (a.at_ i h)⟩
end DL
/-! DL31: which kind is of which. -/
namespace DL
open PySem L2
@[simp] theorem k_NoneType__bool : kitB "NoneType" "bool" = some false := by decide +kernel
@[simp] theorem k_bool__bool : kitB "bool" "bool" = some true := by decide +kernel
@[simp] theorem k_int__bool : kitB "int" "bool" = some false := by decide +kernel
@[simp] theorem k_str__bool : kitB "str" "bool" = some false := by decide +kernel
@[simp] theorem k_tuple__bool : kitB "tuple" "bool" = some false := by decide +kernel
@[simp] theorem k_list__bool : kitB "list" "bool" = some false := by decide +kernel
@[simp] theorem k_dict__bool : kitB "dict" "bool" = some false := by decide +kernel
@[simp] theorem k_NoneType__int : kitB "NoneType" "int" = some false := by decide +kernel
@[simp] theorem k_bool__int : kitB "bool" "int" = some true := by decide +kernel
@[simp] theorem k_int__int : kitB "int" "int" = some true := by decide +kernel
@[simp] theorem k_str__int : kitB "str" "int" = some false := by decide +kernel
@[simp] theorem k_tuple__int : kitB "tuple" "int" = some false := by decide +kernel
@[simp] theorem k_list__int : kitB "list" "int" = some false := by decide +kernel
@[simp] theorem k_dict__int : kitB "dict" "int" = some false := by decide +kernel
@[simp] theorem k_NoneType__tuple : kitB "NoneType" "tuple" = some false := by decide +kernel
@[simp] theorem k_bool__tuple : kitB "bool" "tuple" = some false := by decide +kernel
@[simp] theorem k_int__tuple : kitB "int" "tuple" = some false := by decide +kernel
@[simp] theorem k_str__tuple : kitB "str" "tuple" = some false := by decide +kernel
@[simp] theorem k_tuple__tuple : kitB "tuple" "tuple" = some true := by decide +kernel
@[simp] theorem k_list__tuple : kitB "list" "tuple" = some false := by decide +kernel
@[simp] theorem k_dict__tuple : kitB "dict" "tuple" = some false := by decide +kernel
@[simp] theorem k_NoneType__list : kitB "NoneType" "list" = some false := by decide +kernel
@[simp] theorem k_bool__list : kitB "bool" "list" = some false := by decide +kernel
@[simp] theorem k_int__list : kitB "int" "list" = some false := by decide +kernel
@[simp] theorem k_str__list : kitB "str" "list" = some false := by decide +kernel
@[simp] theorem k_tuple__list : kitB "tuple" "list" = some false := by decide +kernel
@[simp] theorem k_list__list : kitB "list" "list" = some true := by decide +kernel
@[simp] theorem k_dict__list : kitB "dict" "list" = some false := by decide +kernel
@[simp] theorem k_NoneType__dict : kitB "NoneType" "dict" = some false := by decide +kernel
@[simp] theorem k_bool__dict : kitB "bool" "dict" = some false := by decide +kernel
@[simp] theorem k_int__dict : kitB "int" "dict" = some false := by decide +kernel
@[simp] theorem k_str__dict : kitB "str" "dict" = some false := by decide +kernel
@[simp] theorem k_tuple__dict : kitB "tuple" "dict" = some false := by decide +kernel
@[simp] theorem k_list__dict : kitB "list" "dict" = some false := by decide +kernel
@[simp] theorem k_dict__dict : kitB "dict" "dict" = some true := by decide +kernel
/-- it is true, whatever cells there are -/
def isTrue : R D → Bool
 | .ok (.bl b) _ => b
 | _ => false
end DL
/-! DL32: dicts by numbers and texts: d[k], k in d, d[k] = v, get, pop. -/
namespace DL
open PySem L2 PySem.Spec PyProof.Rows
def keyD : D → Option Key
 | .int i => some (.inl i)
 | .str x => some (.inr x)
 | _ => none
theorem key_rep {K : PySem.W.Frag} {W : Wd} {v : V} {d : D} {k : Key} (r : Rep K W v d) (h : keyD d = some k) : v = kV k := by
 cases r <;> simp [keyD] at h
 ·subst h; rfl
 ·subst h; rfl
/-- a dict's keys and worths -/
def dctD (μ : Mu) : D → Option (List Key × List D)
 | .hdl l => match μ[l]? with
  | some (.dct ks xs) => some (ks, xs)
  | _ => none
 | _ => none
theorem dct_rep {K : PySem.W.Frag} {W : Wd} {H : Hp} {μ : Mu} {v : V} {d : D} {ks : List Key} {xs : List D} (ok : Ok K W H μ) (r : Rep K W v d) (h : dctD μ d = some (ks, xs)) : ∃ l a vs, d = .hdl l ∧ W.io[l]? = some a ∧ μ[l]? = some (.dct ks xs) ∧ v = .ref a ∧ H a = some (.dK (ks.zip vs)) ∧ ks.length = vs.length ∧ Reps K W vs xs := by
 cases r with
 | @hdl a l ha =>
  unfold dctD at h
  dsimp only at h
  cases hm : μ[l]? with
  | none => rw [hm] at h; cases h
  | some m =>
   rw [hm] at h
   cases m with
   | dct ks' xs' =>
    cases h
    obtain ⟨o, ho, vs, rfl, hl, rs⟩ := ok.cell l a _ ha hm
    exact ⟨l, a, vs, rfl, ha, hm, rfl, ho, hl, rs⟩
   | _ => cases h
 | _ => simp [dctD] at h
def lookK : List Key → List D → Key → Option D
 | k :: ks, x :: xs, j => if k = j then some x else lookK ks xs j
 | _, _, _ => none
theorem look_rep {K : PySem.W.Frag} {W : Wd} {j : Key} : ∀ {ks : List Key} {vs : List V} {ds : List D}, Reps K W vs ds → match lookK ks ds j with
  | some d => ∃ v, valV (ks.zip vs) j = some v ∧ Rep K W v d
  | none => valV (ks.zip vs) j = none
 | [], _, _, _ => by simp [lookK, valV]
 | _ :: _, _, _, .nil => by simp [lookK, valV]
 | k :: ks, _, _, .cons (v := v) (vs := vs) (d := d) (ds := ds) r rs => by
  have ih := look_rep (j := j) (ks := ks) rs
  rw [lookK, List.zip_cons_cons]
  by_cases e : k = j
  ·rw [if_pos e, valV_pos e]
   exact ⟨v, rfl, r⟩
  ·rw [if_neg e, valV_neg e]
   exact ih
def putD : List Key → List D → Key → D → List Key × List D
 | k :: ks, x :: xs, j, d => if k = j then (k :: ks, d :: xs) else (k :: (putD ks xs j d).1, x :: (putD ks xs j d).2)
 | _, _, j, d => ([j], [d])
def putVs : List Key → List V → Key → V → List V
 | k :: ks, x :: xs, j, d => if k = j then d :: xs else x :: putVs ks xs j d
 | _, _, _, d => [d]
theorem put_noK {j : Key} {v : V} : ∀ {kvs : List (Key × V)}, j ∉ kvs.map (·.1) → kvs.map (fun kv => if kv.1 = j then (kv.1, v) else kv) = kvs
 | [], _ => rfl
 | p :: kvs, h => by
  simp only [List.map_cons, List.mem_cons, not_or] at h
  rw [List.map_cons, if_neg (fun e => h.1 e.symm), put_noK h.2]
theorem put_zip {j : Key} {d : D} {v : V} : ∀ {ks : List Key} {vs : List V} {xs : List D}, ks.Nodup → ks.length = vs.length → ks.length = xs.length → putK (ks.zip vs) j v = (putD ks xs j d).1.zip (putVs ks vs j v) ∧ (putD ks xs j d).1.length = (putVs ks vs j v).length
 | [], [], [], _, _, _ => by simp [putK, putD, putVs]
 | k :: ks, x :: vs, y :: xs, hn, h1, h2 => by
  have hk := List.nodup_cons.mp hn
  obtain ⟨ih, il⟩ := put_zip (j := j) (d := d) (v := v) (ks := ks) (vs := vs) (xs := xs) hk.2 (by simpa using h1) (by simpa using h2)
  by_cases e : k = j
  ·subst e
   have hno : k ∉ (ks.zip vs).map (·.1) := fun z => hk.1 (by
    obtain ⟨q, hq, rfl⟩ := List.mem_map.mp z
    exact (List.of_mem_zip hq).1)
   simp [putK, putD, putVs]
   refine ⟨?_, by simpa using h1⟩
   have := put_noK (v := v) hno
   simpa using this
  ·have hz : (List.zip (k :: ks) (x :: vs)) = (k, x) :: ks.zip vs := rfl
   simp only [putD, putVs, if_neg e, List.zip_cons_cons, List.length_cons, il]
   refine ⟨?_, trivial⟩
   rw [← ih]
   unfold putK
   rw [List.any_cons]
   simp only [decide_eq_false e, Bool.false_or]
   split
   ·rw [List.map_cons, if_neg e]
   ·rfl
theorem putVs_reps {K : PySem.W.Frag} {W : Wd} {j : Key} {d : D} {v : V} (r : Rep K W v d) : ∀ {ks : List Key} {vs : List V} {xs : List D}, ks.length = vs.length → Reps K W vs xs → Reps K W (putVs ks vs j v) (putD ks xs j d).2
 | [], [], xs, _, r0 => by
  cases r0
  simp [putVs, putD]
  exact .cons r .nil
 | k :: ks, x :: vs, xs, h, r0 => by
  cases r0 with
  | cons r1 rs =>
   by_cases e : k = j
   ·simp [putVs, putD, e]
    exact .cons r rs
   ·simp [putVs, putD, e]
    exact .cons r1 (putVs_reps r (by simpa using h) rs)
 | [], _ :: _, _, h, _ => by simp at h
 | _ :: _, [], _, h, _ => by simp at h
section
variable {X : Cx} {E : WX}
/-- d[y] as a rule of values -/
def rIxD : R2 := fun x y H Q => ∃ a v, x = .ref a ∧ DGet H a y (some v) ∧ Q v H
theorem ix_dict (hu : X.A.units + 1 < cLine) : IxR X rIxD := by
 intro value slice pins s σ H x y v u Q I rx ry h hs
 obtain ⟨a, w, rfl, g, q⟩ := h
 cases rx
 have hT := dict_typeIs I g
 unfold subscriptTail
 refine wpAny_bind ?_
 rw [getitemInPython_of_ne hT.not_modules]
 refine wpAny_bind (wpAny_specialOf hT PySem.F.slot_dict_getitem.lookup ?_)
 have fin : wpAny (model X.prog X.w) X.A (subscripted slice false (.ref a) u) (fun r s₃ => wpAny (model X.prog X.w) X.A (letTemporaryGo value (.ref a) r >>= fun _ => pure r) (EP X pins σ Q) X.xe s₃) X.xe s := by
  rw [hs]
  exact wpAny_operating (d_getItem hu I g ry fun w' s3 I3 rw' => wpAny_bind (wpAny_letTemporaryGo (wpAny_pure ⟨w, H, I3, rw', q⟩)))
 first
  | exact wpAny_pure (wpAny_bind fin)
  | exact wpAny_bind (wpAny_pure (wpAny_bind fin))
  | exact wpAny_bind fin
def dIxX : D → D → Mu → R D := fun x i μ => match dctD μ x with
 | some (ks, xs) => match keyD i with
  | some k => R.of (lookK ks xs k) μ
  | none => .bad
 | none => dIx x i μ
theorem dget_of {W : Wd} {H : Hp} {μ : Mu} {v w : V} {d i : D} {ks : List Key} {xs : List D} {k : Key} (ok : Ok X.K W H μ) (r : Rep X.K W v d) (h : dctD μ d = some (ks, xs)) (ri : Rep X.K W w i) (hk : keyD i = some k) : ∃ a o, v = .ref a ∧ DGet H a w o ∧ match lookK ks xs k with
  | some d => ∃ x, o = some x ∧ Rep X.K W x d
  | none => o = none := by
 obtain ⟨l, a, vs, rfl, ha, hm, rfl, ho, hl, rs⟩ := dct_rep ok r h
 have e := key_rep ri hk
 subst e
 have lr := look_rep (j := k) (ks := ks) rs
 refine ⟨a, _, rfl, DGet.k ho, ?_⟩
 cases hq : lookK ks xs k with
 | none => rw [hq] at lr; exact lr
 | some d =>
  rw [hq] at lr
  obtain ⟨x, e1, e2⟩ := lr
  exact ⟨x, e1, e2⟩
theorem ixx_X (hu : X.A.units + 1 < cLine) : IxR X (rD X.K E dIxX) := by
 intro value slice pins s σ H x y v u Q I rx ry q hs
 obtain ⟨E', W, μ, dx, dy, ok, r1, r2, p⟩ := q
 unfold dIxX at p
 cases hd : dctD μ dx with
 | none =>
  rw [hd] at p
  exact ixx_all (E := E) value slice pins s σ H x y v u Q I rx ry ⟨E', W, μ, dx, dy, ok, r1, r2, p⟩ hs
 | some z =>
  obtain ⟨ks, xs⟩ := z
  rw [hd] at p
  dsimp only at p
  cases hk : keyD dy with
  | none => rw [hk] at p; exact p.elim
  | some k =>
   rw [hk] at p
   dsimp only at p
   obtain ⟨a, o, rfl, g, hg⟩ := dget_of ok r1 hd r2 hk
   cases hl : lookK ks xs k with
   | none => rw [hl] at p; exact p.elim
   | some d =>
    rw [hl] at hg p
    obtain ⟨x, rfl, rx'⟩ := hg
    exact ix_dict hu value slice pins s σ H _ y v u Q I rx ry ⟨a, x, rfl, g, post_pure ok p rx'⟩ hs
theorem de_ixX {a b : Expr} {fa fb : FE} {pos : Pos} (hu : X.A.units + 64 < cLine) (ha : DE X E a fa) (hb : DE X E b fb) (hs : PlainIx b := by exact fun _ _ => rfl) : DE X E (.Subscript a b pos) (dbin dIxX fa fb) := pe_imp (pe_ix (ixx_X (by omega)) ha hb hs) (tOp_of opd_D)
/-- y in d, y not in d -/
def inX (b : Bool) (g : D → D → Mu → R D) : D → D → Mu → R D := fun x y μ => match dctD μ y with
 | some (ks, xs) => match keyD x with
  | some k => .ok (.bl ((lookK ks xs k).isSome == b)) μ
  | none => .bad
 | none => g x y μ
theorem opx_inX (hu : X.A.units + 64 < cLine) : OpX X E (compareOp .In) (inX true dIn) := by
 intro pins s σ H x y v u Q I rx ry q
 obtain ⟨E', W, μ, dx, dy, ok, r1, r2, p⟩ := q
 unfold inX at p
 cases hd : dctD μ dy with
 | none => rw [hd] at p; exact opx_in (E := E) hu pins s σ H x y v u Q I rx ry ⟨E', W, μ, dx, dy, ok, r1, r2, p⟩
 | some z =>
  obtain ⟨ks, xs⟩ := z
  rw [hd] at p
  dsimp only at p
  cases hk : keyD dx with
  | none => rw [hk] at p; exact p.elim
  | some k =>
   rw [hk] at p
   dsimp only at p
   obtain ⟨a, o, rfl, g, hg⟩ := dget_of ok r2 hd r1 hk
   cases ry
   have e : o.isSome = (lookK ks xs k).isSome := by
    cases hl : lookK ks xs k with
    | none => rw [hl] at hg; rw [hg]; rfl
    | some d => rw [hl] at hg; obtain ⟨x, rfl, _⟩ := hg; rfl
   refine d_in (by omega) I g rx fun s' I' => ⟨.bl o.isSome, H, I', rfl, ?_⟩
   have q := post_pure ok p (.bl _)
   rw [← e] at q
   cases ho : o.isSome <;> rw [ho] at q <;> exact q
theorem opx_notinX (hu : X.A.units + 64 < cLine) : OpX X E (compareOp .NotIn) (inX false dNotIn) := by
 intro pins s σ H x y v u Q I rx ry q
 obtain ⟨E', W, μ, dx, dy, ok, r1, r2, p⟩ := q
 unfold inX at p
 cases hd : dctD μ dy with
 | none => rw [hd] at p; exact opx_notin (E := E) hu pins s σ H x y v u Q I rx ry ⟨E', W, μ, dx, dy, ok, r1, r2, p⟩
 | some z =>
  obtain ⟨ks, xs⟩ := z
  rw [hd] at p
  dsimp only at p
  cases hk : keyD dx with
  | none => rw [hk] at p; exact p.elim
  | some k =>
   rw [hk] at p
   dsimp only at p
   obtain ⟨a, o, rfl, g, hg⟩ := dget_of ok r2 hd r1 hk
   cases ry
   have e : o.isSome = (lookK ks xs k).isSome := by
    cases hl : lookK ks xs k with
    | none => rw [hl] at hg; rw [hg]; rfl
    | some d => rw [hl] at hg; obtain ⟨x, rfl, _⟩ := hg; rfl
   refine d_notIn (by omega) I g rx fun s' I' => ⟨.bl (!o.isSome), H, I', rfl, ?_⟩
   have q := post_pure ok p (.bl _)
   rw [← e] at q
   cases ho : o.isSome <;> rw [ho] at q <;> exact q
end
end DL
/-! DL33: d[k] = v, d.get, d.pop, len(d). -/
namespace DL
open PySem L2 PySem.Spec PyProof.Rows
/-- o[i] = v, o a list or a dict -/
def putIx (ρ : En) (d x i : D) (μ : Mu) : O := match x with
 | .hdl l => match μ[l]? with
  | some (.lst xs) => match i with
   | .int k => match ixN xs.length k with
    | some j => .nx ρ (μ.set l (.lst (xs.set j d)))
    | none => .bad
   | _ => .bad
  | some (.dct ks xs) => match keyD i with
   | some k => if ks.Nodup ∧ ks.length = xs.length ∧ ks.length < 1000000 then .nx ρ (μ.set l (.dct (putD ks xs k d).1 (putD ks xs k d).2)) else .bad
   | none => .bad
  | _ => .bad
 | _ => .bad
def gsetixX (fo fi fe : FE) : FS := fun ρ μ => (fe ρ μ).to ρ fun d μ1 => (fo ρ μ1).to ρ fun x μ2 => (fi ρ μ2).to ρ fun i μ3 => putIx ρ d x i μ3
@[simp] theorem ap_setixX (fo fi fe : FE) (ρ : En) (μ : Mu) : gsetixX fo fi fe ρ μ = (fe ρ μ).to ρ fun d μ1 => (fo ρ μ1).to ρ fun x μ2 => (fi ρ μ2).to ρ fun i μ3 => putIx ρ d x i μ3 := of_eq_true (eq_self _)
section
variable {X : Cx} {E : WX}
def rSetX : V → V → V → Hp → (Hp → Prop) → Prop := fun o i v H Q => rSetL o i v H Q ∨ ∃ a H', o = .ref a ∧ DPut H a i v H' ∧ Q H'
theorem set_X (hu : X.A.units + 1 < cLine) : PSet X rSetX := by
 intro pins s σ H o i v ov iv u Q I ro ri rv h
 rcases h with h | ⟨a, H', rfl, g, q⟩
 ·exact set_list pins s σ H o i v ov iv u Q I ro ri rv h
 ·cases ro
  exact d_setItem hu I g ri rv fun s' I' => ⟨H', I', q⟩
theorem ds_setixX {o i e : Expr} {fo fi fe : FE} {pos pos' : Pos} (hu : X.A.units + 64 < cLine) (he : DE X E e fe) (ho : DE X E o fo) (hi : DE X E i fi)
  (ha : ∀ v, assign (.Subscript o i pos') X.env v = (do
   let ov ← holding [v] (eval o X.env)
   let iv ← holding [v, ov] (eval i X.env)
   standAt pos'
   holding [v, ov, iv] (setItem ov iv v)
   release [v, ov, iv] []) := by intro _; rfl) (hs : swapsWithSole [.Subscript o i pos'] e pos.line X.env = pure false := by rfl) (hw : swappedStores [.Subscript o i pos'] e X.env = pure none := by rfl)
  (h1 : (assignEach [.Subscript o i pos'] X.env).map (·.2) = [assign (.Subscript o i pos') X.env] := by rfl) : DS X E (.Assign [.Subscript o i pos'] e pos) (gsetixX fo fi fe) := by
 refine ps_imp (ps_asg he (pg_sub ho hi (set_X (by omega)) ha) hs hw h1) fun Z σ H ⟨W, ρ, μ, ok, en, p⟩ => ?_
 refine seqS p ok en fun d μ1 W1 v H1 g1 o1 en1 r p1 => ?_
 refine seqS p1 o1 en1 fun x μ2 W2 xv H2 g2 o2 en2 r2 p2 => ?_
 refine seqS p2 o2 en2 fun i μ3 W3 iv H3 g3 o3 en3 r3 p3 => ?_
 unfold putIx at p3
 split at p3
 ·rename_i l
  cases r2 with
  | @hdl a _ ha =>
   have ha3 := prefix_get g3.le.io ha
   split at p3
   ·rename_i xs hm
    split at p3
    ·rename_i k
     split at p3
     ·rename_i j hj
      cases r3
      obtain ⟨ob, ho, vs, rfl, q⟩ := o3.cell l a _ ha3 hm
      obtain ⟨ok4, g4⟩ := o3.setcell (m' := .lst (xs.set j d)) ha3 hm (fun z => nomatch z) ⟨vs.set j v, rfl, q.set ((r.mono g2.le).mono g3.le) j⟩
      exact .inl ⟨a, vs, k, j, rfl, rfl, ho, by rw [q.length]; exact hj, p3 _ _ _ g4 ok4 en3⟩
     ·exact p3.elim
    ·exact p3.elim
   ·rename_i ks xs hm
    split at p3
    ·rename_i k hk
     split at p3
     ·rename_i hq
      obtain ⟨hn, hl, hz⟩ := hq
      obtain ⟨ob, ho, vs, rfl, hv, q⟩ := o3.cell l a _ ha3 hm
      have e := key_rep r3 hk
      subst e
      obtain ⟨pz, pl⟩ := put_zip (j := k) (d := d) (v := v) (xs := xs) hn hv hl
      have rr := putVs_reps (j := k) ((r.mono g2.le).mono g3.le) hv q
      obtain ⟨ok4, g4⟩ := o3.setcell (m' := .dct (putD ks xs k d).1 (putD ks xs k d).2) (o' := .dK (putK (ks.zip vs) k v)) ha3 hm (fun z => nomatch z) ⟨putVs ks vs k v, by rw [pz], pl, rr⟩
      refine .inr ⟨a, _, rfl, DPut.k ho ?_, p3 _ _ _ g4 ok4 en3⟩
      rw [List.length_zip, ← hv, Nat.min_self]
      exact Nat.lt_of_lt_of_le hz (by rw [sizeLine_eq]; omega)
     ·exact p3.elim
    ·exact p3.elim
   ·exact p3.elim
 ·exact p3.elim
end
end DL
/-! DL35: dict displays, dict(pairs). -/
namespace DL
open PySem L2 PySem.Spec PyProof.Rows
/-- pairs put one behind the other -/
def mergeD : List (Key × D) → List Key × List D → List Key × List D
 | [], q => q
 | p :: ps, q => mergeD ps (putD q.1 q.2 p.1 p.2)
theorem putD_mem {j x : Key} {d : D} : ∀ {ks : List Key} {xs : List D}, x ∈ (putD ks xs j d).1 → x ∈ ks ∨ x = j
 | [], xs, h => by
  simp [putD] at h
  exact .inr h
 | k :: ks, [], h => by
  simp [putD] at h
  exact .inr h
 | k :: ks, y :: xs, h => by
  by_cases e : k = j
  ·simp [putD, e] at h
   rcases h with h | h
   ·exact .inr h
   ·exact .inl (List.mem_cons_of_mem _ h)
  ·simp only [putD, if_neg e, List.mem_cons] at h
   rcases h with h | h
   ·exact .inl (by simp [h])
   ·rcases putD_mem h with h | h
    ·exact .inl (List.mem_cons_of_mem _ h)
    ·exact .inr h
theorem putD_nodup {j : Key} {d : D} : ∀ {ks : List Key} {xs : List D}, ks.Nodup → (putD ks xs j d).1.Nodup
 | [], xs, _ => by simp [putD]
 | k :: ks, [], _ => by simp [putD]
 | k :: ks, y :: xs, h => by
  have hk := List.nodup_cons.mp h
  by_cases e : k = j
  ·simp only [putD, if_pos e]
   exact h
  ·simp only [putD, if_neg e]
   refine List.nodup_cons.mpr ⟨fun z => ?_, putD_nodup hk.2⟩
   rcases putD_mem z with z | z
   ·exact hk.1 z
   ·exact e z
theorem putD_len {j : Key} {d : D} : ∀ {ks : List Key} {xs : List D}, ks.length = xs.length → (putD ks xs j d).1.length = (putD ks xs j d).2.length
 | [], [], _ => by simp [putD]
 | [], _ :: _, h => by simp at h
 | _ :: _, [], h => by simp at h
 | k :: ks, y :: xs, h => by
  by_cases e : k = j
  ·simpa [putD, e] using h
  ·simp only [putD, if_neg e, List.length_cons]
   rw [putD_len (by simpa using h)]
theorem merge_rep {K : PySem.W.Frag} {W : Wd} : ∀ {ps : List (Key × D)} {us : List V} {ks : List Key} {xs : List D} {vs : List V}, Reps K W us (ps.map (·.2)) → ks.Nodup → ks.length = xs.length → ks.length = vs.length → Reps K W vs xs →
  ∃ ws, mergeK (ks.zip vs) ((ps.map (·.1)).zip us) = (mergeD ps (ks, xs)).1.zip ws ∧ (mergeD ps (ks, xs)).1.length = ws.length ∧ Reps K W ws (mergeD ps (ks, xs)).2
 | [], us, ks, xs, vs, r, hn, h1, h2, rs => by
  cases r
  exact ⟨vs, rfl, h2, rs⟩
 | p :: ps, us, ks, xs, vs, r, hn, h1, h2, rs => by
  cases r with
  | @cons u us _ _ r1 r2 =>
   obtain ⟨pz, pl⟩ := put_zip (j := p.1) (d := p.2) (v := u) (xs := xs) hn h2 h1
   have rr := putVs_reps (j := p.1) r1 h2 rs
   obtain ⟨ws, e1, e2, e3⟩ := merge_rep (ps := ps) (us := us) (ks := (putD ks xs p.1 p.2).1) (xs := (putD ks xs p.1 p.2).2) (vs := putVs ks vs p.1 u) r2 (putD_nodup hn) (putD_len h1) pl rr
   refine ⟨ws, ?_, e2, e3⟩
   rw [← pz] at e1
   exact e1
/-- what a display's pairs are worth -/
def pairsF : List (FE × FE) → En → Mu → R (List (D × D))
 | [], _, μ => .ok [] μ
 | q :: qs, ρ, μ => (q.1 ρ μ).bind fun k μ1 => (q.2 ρ μ1).bind fun d μ2 => (pairsF qs ρ μ2).bind fun ps μ3 => .ok ((k, d) :: ps) μ3
def keyPairs : List (D × D) → Option (List (Key × D))
 | [] => some []
 | q :: qs => match keyD q.1, keyPairs qs with
  | some k, some ps => some ((k, q.2) :: ps)
  | _, _ => none
inductive RepP (K : PySem.W.Frag) (W : Wd) : List (V × V) → List (D × D) → Prop
 | nil : RepP K W [] []
 | cons {x y : V} {k d : D} {vs : List (V × V)} {ds : List (D × D)} : Rep K W x k → Rep K W y d → RepP K W vs ds → RepP K W ((x, y) :: vs) ((k, d) :: ds)
theorem RepP.keys {K : PySem.W.Frag} {W : Wd} : ∀ {vs : List (V × V)} {ds : List (D × D)} {ps : List (Key × D)}, RepP K W vs ds → keyPairs ds = some ps → ∃ us, vs = ((ps.map (·.1)).zip us).map (fun kv => (kV kv.1, kv.2)) ∧ Reps K W us (ps.map (·.2))
 | _, _, ps, .nil, h => by
  simp [keyPairs] at h
  subst h
  exact ⟨[], rfl, .nil⟩
 | _, _, ps, .cons (x := x) (y := y) (k := k) (d := d) r1 r2 r3, h => by
  unfold keyPairs at h
  split at h
  ·rename_i j qs hj hq
   cases h
   obtain ⟨us, e, r⟩ := r3.keys hq
   have ex := key_rep r1 hj
   exact ⟨y :: us, by simp [ex, e], .cons r2 r⟩
  ·cases h
def postP (K : PySem.W.Frag) (E : XK) (W : Wd) (H : Hp) (r : R (List (D × D))) (Q : List (V × V) → Hp → Prop) : Prop := match r with
 | .ok ds μ => ∀ W' vs H', Go W H W' H' → Ok K W' H' μ → RepP K W' vs ds → Q vs H'
 | .ex c fs μ => ∀ W' H' d, Go W H W' H' → Ok K W' H' μ → ExcIs K W' H' fs d → E (.ref (cl K c)) d H'
 | .bad => False
theorem RepP.mono {K : PySem.W.Frag} {W W' : Wd} (l : Le W W') : ∀ {vs : List (V × V)} {ds : List (D × D)}, RepP K W vs ds → RepP K W' vs ds
 | _, _, .nil => .nil
 | _, _, .cons a b c => .cons (a.mono l) (b.mono l) (c.mono l)
theorem postP.mono {K : PySem.W.Frag} {E : XK} {W W1 : Wd} {H H1 : Hp} {r : R (List (D × D))} {Q : List (V × V) → Hp → Prop} (g : Go W H W1 H1) (h : postP K E W H r Q) : postP K E W1 H1 r Q := by
 cases r with
 | ok d μ => exact fun W' v H' g' o r => h W' v H' (g.trans g') o r
 | ex c fs μ => exact fun W' H' d g' o r => h W' H' d (g.trans g') o r
 | bad => exact h
theorem tPairs_of {K : PySem.W.Frag} {E : WX} : ∀ {qs : List (FE × FE)} {σ : L2.St} {H : Hp} {Q : List (V × V) → Hp → Prop} {W : Wd} {ρ : En} {μ : Mu}, Ok K W H μ → Envs K W σ ρ → postP K (WE E σ) W H (pairsF qs ρ μ) Q → tPairs (qs.map fun q => (rE K E q.1, rE K E q.2)) σ H Q
 | [], σ, H, Q, W, ρ, μ, ok, en, p => p W [] H (Go.refl _ _) ok .nil
 | q :: qs, σ, H, Q, W, ρ, μ, ok, en, p => by
  simp only [pairsF] at p
  refine ⟨W, ρ, μ, ok, en, ?_⟩
  revert p
  cases q.1 ρ μ with
  | ex c fs μ1 => exact fun p => p
  | bad => exact fun p => p
  | ok k μ1 =>
   intro p W1 x H1 g1 o1 r1
   refine ⟨W1, ρ, μ1, o1, en.mono g1.le, ?_⟩
   have p := postP.mono g1 p
   revert p
   rw [R.bind_ok]
   cases q.2 ρ μ1 with
   | ex c fs μ2 => exact fun p => p
   | bad => exact fun p => p
   | ok d μ2 =>
    intro p W2 y H2 g2 o2 r2
    refine tPairs_of (qs := qs) (W := W2) (ρ := ρ) (μ := μ2) o2 ((en.mono g1.le).mono g2.le) ?_
    have p := postP.mono g2 p
    revert p
    rw [R.bind_ok]
    cases pairsF qs ρ μ2 with
    | ex c fs μ3 => exact fun p => p
    | bad => exact fun p => p
    | ok ps μ3 => exact fun p W3 vs H3 g3 o3 r3 => p W3 ((x, y) :: vs) H3 g3 o3 (.cons (r1.mono (g2.le.trans g3.le)) (r2.mono g3.le) r3)
def dDisp (qs : List (FE × FE)) : FE := fun ρ μ => (pairsF qs ρ (μ ++ [.dct [] []])).bind fun ps μ1 => match μ1[μ.length]? with
 | some (.dct [] []) => match keyPairs ps with
  | some kvs => if kvs.length ≤ 15 then .ok (.hdl μ.length) (μ1.set μ.length (.dct (mergeD kvs ([], [])).1 (mergeD kvs ([], [])).2)) else .bad
  | none => .bad
 | _ => .bad
@[simp] theorem ap_disp (qs : List (FE × FE)) (ρ : En) (μ : Mu) : dDisp qs ρ μ = (pairsF qs ρ (μ ++ [.dct [] []])).bind fun ps μ1 => match μ1[μ.length]? with
 | some (.dct [] []) => match keyPairs ps with
  | some kvs => if kvs.length ≤ 15 then .ok (.hdl μ.length) (μ1.set μ.length (.dct (mergeD kvs ([], [])).1 (mergeD kvs ([], [])).2)) else .bad
  | none => .bad
 | _ => .bad := of_eq_true (eq_self _)
section
variable {X : Cx} {E : WX} {pos : Pos} {keys : List (Option Expr)} {values : List Expr}
abbrev DPs (X : Cx) (E : WX) (pos : Pos) (keys : List (Option Expr)) (values : List Expr) (qs : List (FE × FE)) : Prop := PPs X pos keys values (qs.map fun q => (rE X.K E q.1, rE X.K E q.2))
theorem dp_nil : DPs X E pos [] [] [] := pps_nil
theorem dp_cons {k v : Expr} {fk fv : FE} {qs : List (FE × FE)} (hk : DE X E k fk) (hv : DE X E v fv) (hr : DPs X E pos keys values qs) : DPs X E pos (some k :: keys) (v :: values) ((fk, fv) :: qs) := pps_cons hk hv hr
theorem de_disp {qs : List (FE × FE)} (h : DPs X E pos keys values qs) (hall : keys.all (·.isSome) = true := by rfl) (hl : keys.length = values.length := by rfl) (h0 : keys ≠ [] := by simp) (h15 : keys.length ≤ 15 := by decide) : DE X E (.Dict keys values pos) (dDisp qs) := by
 refine pe_imp (pe_disp h hall hl h0 h15) fun σ H Q ⟨W, ρ, μ, ok, en, p⟩ => fun a ha => ?_
 have ok1 : Ok X.K (W.cell a) (upd H a (.dK [])) (μ ++ [.dct [] []]) := ok.newcell ha (m := .dct [] []) ⟨[], rfl, rfl, .nil⟩
 have g1 : Go W H (W.cell a) (upd H a (.dK [])) := Go.cell ok ha
 have hio : (W.cell a).io[μ.length]? = some a := by
  show (W.io ++ [a])[μ.length]? = some a
  rw [← ok.len]
  simp
 refine tPairs_of (W := W.cell a) ok1 (en.mono g1.le) ?_
 unfold dDisp at p
 revert p
 cases pairsF qs ρ (μ ++ [.dct [] []]) with
 | ex c fs μ1 => exact fun p W' H' d g o x => p W' H' d (g1.trans g) o x
 | bad => exact fun p => p
 | ok ps μ1 =>
  rw [R.bind_ok]
  intro p W2 vs H2 g2 o2 r2
  split at p
  ·rename_i hm
   have hio2 := prefix_get g2.le.io hio
   obtain ⟨ob, hob, vs0, rfl, h00, r00⟩ := o2.cell _ _ _ hio2 hm
   cases r00
   split at p
   ·rename_i kvs hk
    split at p
    ·rename_i h15'
     obtain ⟨us, e, rr⟩ := r2.keys hk
     obtain ⟨ws, e1, e2, e3⟩ := merge_rep (ks := []) (xs := []) (vs := []) rr List.nodup_nil rfl rfl .nil
     obtain ⟨ok4, g4⟩ := o2.setcell (m' := .dct (mergeD kvs ([], [])).1 (mergeD kvs ([], [])).2) (o' := .dK (mergeK [] ((kvs.map (·.1)).zip us))) hio2 hm (fun z => nomatch z) ⟨ws, by rw [← e1]; rfl, e2, e3⟩
     refine ⟨hob, (kvs.map (·.1)).zip us, e, ?_, p W2 _ _ ((g1.trans g2).trans g4) ok4 (.hdl hio2)⟩
     rw [List.length_zip, List.length_map]
     omega
    ·exact p.elim
   ·exact p.elim
  ·exact p.elim
end
end DL
/-! DL36: own exceptions over ValueError, KeyError, RuntimeError: how they are made. -/
namespace DL
open PySem L2 PySem.Spec PyProof.Rows PySem.HandSPX
theorem store_KeyError : StoreFacts "KeyError" keTail "object.__setattr__" "object" where
 mro := by kernel_rfl
 slot := .of (owner := "object") (n := "__setattr__") (by rw [typeLookup_type, builtinLookup_eq_fast]; kernel_rfl) (by decide +kernel) (by decide +kernel) (by decide +kernel)
  (by first | exact .inl (by decide +kernel) | exact .inr (by decide +kernel)) (by rw [isSubtype_type]; kernel_rfl)
 entry := PySem.F.store_object.entry
 kind := by decide +kernel
 split := by decide +kernel
 hasOwner := by decide +kernel
 args := fun a b c => by unfold argsOk; kernel_rfl
 passes := fun self => by kernel_rfl
/-! ### a class over KeyError: its __new__ is LookupError's -/
section
variable {prog : Program} {w : World} {A : Around} {E : Value → Shared → Prop} {R : Result → Shared → Prop} {h : Heap} {g : Array GenState} {d : Drawn} {t : Nat} {os : OsState}
variable {nm q : Str} {C N : Addr} {bs bm bmB : List Value} {hdct : Bool} {sn : List Str} {sub : List Value} {ab : Bool} {col : Option Bool} {dd : Option Addr} {k0 k1 k2 k3 k5 : Option Value} {B newId initId : String}
theorem new2 (F : ExcBaseFacts B newId initId bmB) (cB : (Value.ref C :: bm).contains (.type B) = true) (cA : (Value.ref C :: bm).contains (.type "AttributeError") = false) (cN : (Value.ref C :: bm).contains (.type "NameError") = false) {rest : List Value} {kw : List (Str × Value)}
  (hC : h.get? C = some (excClassObj nm q C N bs bm hdct sn sub ab col dd k0 k1 k2 k3 k5 newId)) (hrest : rest.length ≤ sizeLine)
  (hq : R (.ok (.ret (.ref (h.objs.size + 1)))) ⟨(h.push (W.kdv_tup rest)).push (excO C h.objs.size), g, d, t, os⟩) :
  codeAny (model prog w) A (.builtin newId ⟨.ref C :: rest, kw⟩) R ⟨h, g, d, t, os⟩ := by
 have hends := F.ends
 refine codeAny_builtinAt F.entry ?_
 unfold Builtin.«BaseException.__new__»
 refine PySem.wpAt_bind ?_
 show PySem.wpAt _ _ _ (stack >>= _) _ _ _
 refine PySem.wpAt_bind (PySem.wpAt_stack fun p below => PySem.wpAt_of_wpAny ?_)
 wp_walk
 refine PySem.wpAt_of_wpAny ?_
 rw [F.owner]
 repeat (first | with_reducible refine wpAny_madeHere_exc F.canon hC ?_ | with_reducible refine wpAny_loadPart_at hC ?_ | (with_reducible refine wpAny_isSubtype_exc hC ?_; first | rw [cB] | rw [cA] | rw [cN]) | wp_step)
 show R _ _
 rw [Heap.size_push]
 exact hq
theorem check2 {M : Model} (F : ExcBaseFacts B newId initId bmB) (cB : (Value.ref C :: bm).contains (.type B) = true) {rest : List Value} {kw : List (Str × Value)} {Q : Unit → Shared → Prop}
  (hC : h.get? C = some (excClassObj nm q C N bs bm hdct sn sub ab col dd k0 k1 k2 k3 k5 newId)) (hq : Q () ⟨h, g, d, t, os⟩) : wpAny M A (checkBuiltinCall newId ⟨.ref C :: rest, kw⟩) Q E ⟨h, g, d, t, os⟩ := by
 have hstar := F.noStar
 simp only [checkBuiltinCall, F.newKind, F.newSplit, F.newRow]
 repeat (first | refine wpAny_loadPart_at hC ?_ | (refine wpAny_isSubtype_exc hC ?_; rw [cB]) | refine wpAny_staticBase_exc hC ?_ | refine wpAny_madeBy_exc hC ?_ | simp only [bne_self_eq_false, Bool.false_eq_true, if_false] | wp_step)
 exact hq
theorem check_tcK {M : Model} {A : Around} {rest : List Value} {kw : List (Str × Value)} {Q : Unit → Shared → Prop} (hC : h.get? C = some (excClassObj nm q C N bs bm hdct sn sub ab col dd k0 k1 k2 k3 k5 newId))
  (hq : Q () ⟨h, g, d, t, os⟩) : wpAny M A (checkBuiltinCall "type.__call__" ⟨.ref C :: rest, kw⟩) Q E ⟨h, g, d, t, os⟩ := by
 refine PySem.W.check_slot tc_kind tc_split ?_ (PySem.W.tc_args _ _ _) hq
 have t1 : PySem.W.Looks M h (typeOf (.ref C)) (.type "type") := (PySem.W.Looks.ld hC).andThen .now
 unfold isInstance
 exact t1.andThen (PySem.W.Looks.of_pure tc_sub)
theorem tcall2 (F : ExcBaseFacts B newId initId bmB) (cB : (Value.ref C :: bm).contains (.type B) = true) (cA : (Value.ref C :: bm).contains (.type "AttributeError") = false) (cN : (Value.ref C :: bm).contains (.type "NameError") = false) {rest : List Value} {kw : List (Str × Value)} {fI : Addr} {Q : Fin → Shared → Prop}
  (hC : h.get? C = some (excClassObj nm q C N bs bm hdct sn sub ab col dd k0 k1 k2 k3 k5 newId))
  (hi : W.Looks (model prog w) h (typeLookup (.ref C) "__init__") (some (.ref fI))) (hb : ∀ self, W.Looks (model prog w) h (bindSpecial (.ref fI) self) (.ref fI, [self])) (hrest : rest.length ≤ sizeLine)
  (hq : codeAny (model prog w) A (.call (.ref fI) ⟨.ref (h.objs.size + 1) :: rest, kw⟩)
   (fun r s' => match r with | .ok (.ret v) => v = .none ∧ Q (.done (.ret (.ref (h.objs.size + 1)))) s' | .ok _ => False | .error e => E e s')
   ⟨(h.push (W.kdv_tup rest)).push (excO C h.objs.size), g, d, t, os⟩) :
  wpAny (model prog w) A (Builtin.«type.__call__» ⟨.ref C :: rest, kw⟩) Q E ⟨h, g, d, t, os⟩ := by
 repeat (first | with_reducible refine wpAny_loadPart_at hC ?_ | with_reducible refine wpAny_madeBy_exc hC ?_ | wp_step)
 refine codeAny_call_builtin_code (Code.quiet_builtin _ F.quiet) (check2 F cB hC ?_)
 refine new2 F cB cA cN hC hrest ?_
 show wpAny _ _ _ _ _ _
 have k : ∀ b o, h.get? b = some o → ((h.push (W.kdv_tup rest)).push (excO C h.objs.size)).get? b = some o := fun b o e => Heap.get?_push_of_some _ (Heap.get?_push_of_some _ e)
 have hC₁ := k _ _ hC
 have hget : ((h.push (W.kdv_tup rest)).push (excO C h.objs.size)).get? (h.objs.size + 1) = some (excO C h.objs.size) := by heap_get
 have hcC : (Value.ref C :: bm).contains (.ref C) = true := by simp
 have i1 := hi.keeps k
 have b1 := (hb (.ref (h.objs.size + 1))).keeps k
 unfold isInstance
 repeat (first | with_reducible refine wpAny_loadPart_at hget ?_ | (with_reducible refine wpAny_isSubtype_exc hC₁ ?_; rw [hcC]) | wp_step)
 show wpAny _ _ (typeLookup (.ref C) _) _ _ _
 refine i1.at ?_
 refine wpAny_holding (wpAny_bind (b1.at ?_))
 refine wpAny_bind (wpAny_call (codeAny_mono hq fun r s' z => ?_))
 rcases r with e | (v | _ | _ | _) <;> first | exact z | exact z.elim | skip
 obtain ⟨rfl, z⟩ := z
 first
  | exact wpAny_pure (wpAny_pure z)
  | (wp_walk; exact z)
theorem call2 (F : ExcBaseFacts B newId initId bmB) (cB : (Value.ref C :: bm).contains (.type B) = true) (cA : (Value.ref C :: bm).contains (.type "AttributeError") = false) (cN : (Value.ref C :: bm).contains (.type "NameError") = false) {rest : List Value} {kw : List (Str × Value)} {fI : Addr}
  (hC : h.get? C = some (excClassObj nm q C N bs bm hdct sn sub ab col dd k0 k1 k2 k3 k5 newId))
  (hi : W.Looks (model prog w) h (typeLookup (.ref C) "__init__") (some (.ref fI))) (hb : ∀ self, W.Looks (model prog w) h (bindSpecial (.ref fI) self) (.ref fI, [self])) (hrest : rest.length ≤ sizeLine)
  (hq : codeAny (model prog w) (A.under (.builtin "type.__call__" ⟨.ref C :: rest, kw⟩)) (.call (.ref fI) ⟨.ref (h.objs.size + 1) :: rest, kw⟩) (W.InitBack (h.objs.size + 1) R)
   ⟨(h.push (W.kdv_tup rest)).push (excO C h.objs.size), g, d, t, os⟩) :
  codeAny (model prog w) A (.call (.ref C) ⟨rest, kw⟩) R ⟨h, g, d, t, os⟩ := by
 have f1 := tc_lookup
 have f2 := tc_bind (.ref C)
 have hTy : (⟨h, g, d, t, os⟩ : Shared).TypeIs (.ref C) "type" := ⟨_, hC, rfl⟩
 refine codeAny_of_tree ?_
 show wpAny _ _ (callAny (.ref C) _) _ _ _
 repeat (any_goals (first | assumption | with_reducible refine wpAny_loadPart_at hC ?_ | wp_step))
 refine ⟨rfl, ?_⟩
 refine codeAny_call_builtin_at (Code.quiet_builtin _ (by decide +kernel)) entry_typeCall (check_tcK hC (tcall2 F cB cA cN hC hi hb hrest ?_))
 refine codeAny_mono hq fun r s' z => ?_
 rcases r with e | (v | _ | _ | _) <;> exact z
end
theorem slot_ke : Slot "KeyError" "__init__" "KeyError.__init__" := .of (owner := "KeyError") (n := "__init__") (by rw [typeLookup_type, builtinLookup_eq_fast]; kernel_rfl) (by decide +kernel) (by decide +kernel) (by decide +kernel)
  (by first | exact .inl (by decide +kernel) | exact .inr (by decide +kernel)) (by rw [isSubtype_type]; kernel_rfl)
theorem entry_ke : entryFor table "KeyError.__init__" = some Builtin.«BaseException.__init__» := entryFor_alias (id' := "BaseException.__init__") (by rw [fastTable_eq_tree]; kernel_rfl) (by first | rfl | decide +kernel) (by decide +kernel) (by rw [fastTable_eq_tree]; kernel_rfl)
theorem split_ke : splitId "KeyError.__init__" = some ("KeyError", "__init__") := by kernel_rfl
theorem kind_ke : builtinKind "KeyError.__init__" = some .slot := by kernel_rfl
theorem row_ke : Manifest.signature? "KeyError.__init__" = some ⟨.positional, "*", "KeyError", .self, [⟨"args", .varPos, false⟩]⟩ := by kernel_rfl
section
variable {prog : Program} {w : World} {A : Around} {E : Value → Shared → Prop} {R : Result → Shared → Prop} {h : Heap} {g : Array GenState} {d : Drawn} {t : Nat} {os : OsState}
variable {nm q : Str} {C N : Addr} {bs bm bmB : List Value} {hdct : Bool} {sn : List Str} {sub : List Value} {ab : Bool} {col : Option Bool} {dd : Option Addr} {k0 k1 k2 k3 k5 : Option Value} {B newId initId : String}
theorem init_ke (cB : (Value.ref C :: bm).contains (.type "KeyError") = true) {e t0 : Addr} {rest : List Value}
  (hC : h.get? C = some (excClassObj nm q C N bs bm hdct sn sub ab col dd k0 k1 k2 k3 k5 newId)) (he : h.get? e = some (excO C t0)) (hrest : rest.length ≤ sizeLine)
  (hq : ∀ h' t1, (∀ b o, b ≠ e → h.get? b = some o → h'.get? b = some o) → h'.get? e = some (excO C t1) → R (.ok (.ret .none)) ⟨h', g, d, t, os⟩) :
  codeAny (model prog w) A (.call (.builtin "KeyError.__init__") ⟨.ref e :: rest, []⟩) R ⟨h, g, d, t, os⟩ := by
 have chk : ∀ {Q : Unit → Shared → Prop} {E : Value → Shared → Prop} {A : Around}, Q () ⟨h, g, d, t, os⟩ → wpAny (model prog w) A (checkBuiltinCall "KeyError.__init__" ⟨.ref e :: rest, []⟩) Q E ⟨h, g, d, t, os⟩ := by
  intro Q E A hq
  have hshort : ("KeyError" != "*") = true := by decide +kernel
  simp only [checkBuiltinCall, kind_ke, split_ke, row_ke]
  repeat (first | with_reducible refine wpAny_loadPart_at he ?_ | with_reducible refine wpAny_loadPart_at hC ?_ | (with_reducible refine wpAny_isSubtype_exc hC ?_; rw [cB]) | wp_step)
  refine wpAny_onRaise ?_
  rw [show ∀ (a b : String) (n : Nat), Bind.check ⟨.positional, "*", "KeyError", .self, [⟨"args", .varPos, false⟩]⟩ a b n (List.map (fun x => x.fst) ({ pos := Value.ref e :: rest } : Args).kw) = pure () from
   fun a b n => check_star_args _ _ _ _ _ _]
  exact wpAny_pure hq
 refine codeAny_call_builtin slot_ke.plain entry_ke (chk ?_)
 wp_walk
 refine hq _ h.objs.size (fun b o hb ho => ?_) ?_
 ·rw [Heap.get?_update_other _ _ (Ne.symm hb)]
  exact Heap.get?_push_of_some _ ho
 ·rw [Heap.get?_update_self _ (Heap.get?_push_of_some _ he) rfl]
  rfl
end
end DL
/-! DL37: own exceptions: __init__ of the base, fields, the call of the class. -/
namespace DL
open PySem L2 PySem.Spec PyProof.Rows PySem.HandSPX
/-- what is known of a built-in exception class under own ones -/
structure Bas (newId initId : String) (bmB : List Value) : Prop where
 call : ∀ {prog : Program} {w : World} {A : Around} {R : Result → Shared → Prop} {h : Heap} {g : Array GenState} {d : Drawn} {t : Nat} {os : OsState} {nm q : Str} {C N : Addr} {bs bm : List Value} {hdct : Bool} {sn : List Str} {sub : List Value} {ab : Bool} {col : Option Bool} {dd : Option Addr} {k0 k1 k2 k3 k5 : Option Value} {rest : List Value} {kw : List (Str × Value)} {fI : Addr},
  (∀ X : String, bm.contains (.type X) = bmB.contains (.type X)) → h.get? C = some (excClassObj nm q C N bs bm hdct sn sub ab col dd k0 k1 k2 k3 k5 newId) →
  PySem.W.Looks (model prog w) h (typeLookup (.ref C) "__init__") (some (.ref fI)) → (∀ self, PySem.W.Looks (model prog w) h (bindSpecial (.ref fI) self) (.ref fI, [self])) → rest.length ≤ sizeLine →
  codeAny (model prog w) (A.under (.builtin "type.__call__" ⟨.ref C :: rest, kw⟩)) (.call (.ref fI) ⟨.ref (h.objs.size + 1) :: rest, kw⟩) (PySem.W.InitBack (h.objs.size + 1) R) ⟨(h.push (PySem.W.kdv_tup rest)).push (excO C h.objs.size), g, d, t, os⟩ →
  codeAny (model prog w) A (.call (.ref C) ⟨rest, kw⟩) R ⟨h, g, d, t, os⟩
 init : ∀ {prog : Program} {w : World} {A : Around} {R : Result → Shared → Prop} {h : Heap} {g : Array GenState} {d : Drawn} {t : Nat} {os : OsState} {nm q : Str} {C N : Addr} {bs bm : List Value} {hdct : Bool} {sn : List Str} {sub : List Value} {ab : Bool} {col : Option Bool} {dd : Option Addr} {k0 k1 k2 k3 k5 : Option Value} {rest : List Value} {e t0 : Addr},
  (∀ X : String, bm.contains (.type X) = bmB.contains (.type X)) → h.get? C = some (excClassObj nm q C N bs bm hdct sn sub ab col dd k0 k1 k2 k3 k5 newId) → h.get? e = some (excO C t0) → rest.length ≤ sizeLine →
  (∀ h' t1, (∀ b o, b ≠ e → h.get? b = some o → h'.get? b = some o) → h'.get? e = some (excO C t1) → R (.ok (.ret .none)) ⟨h', g, d, t, os⟩) →
  codeAny (model prog w) A (.call (.builtin initId) ⟨.ref e :: rest, []⟩) R ⟨h, g, d, t, os⟩
 st : ∃ B, StoreFacts B bmB "object.__setattr__" "object"
theorem has_of {C : Addr} {bm bmB : List Value} {x : String} {b : Bool} (e : bmB.contains (.type x) = b) (hT : ∀ X : String, bm.contains (.type X) = bmB.contains (.type X)) : (Value.ref C :: bm).contains (.type x) = b := by
 rw [List.contains_cons, hT, e]
 cases b <;> rfl
theorem bas_VE : Bas "ValueError.__new__" "ValueError.__init__" veTail := ⟨fun hT hC hi hb hr hq => call2 F.excBase_ValueError (has_of F.excBase_ValueError.hasB hT) (has_of F.excBase_ValueError.noAttr hT) (has_of F.excBase_ValueError.noName hT) hC hi hb hr hq, fun hT hC he hr hq => init_base F.excBase_ValueError hT hC he hr hq, _, F.store_ValueError⟩
theorem bas_RT : Bas "RuntimeError.__new__" "RuntimeError.__init__" rtTail := ⟨fun hT hC hi hb hr hq => call2 F.excBase_RuntimeError (has_of F.excBase_RuntimeError.hasB hT) (has_of F.excBase_RuntimeError.noAttr hT) (has_of F.excBase_RuntimeError.noName hT) hC hi hb hr hq, fun hT hC he hr hq => init_base F.excBase_RuntimeError hT hC he hr hq, _, F.store_RuntimeError⟩
theorem bas_KE : Bas "LookupError.__new__" "KeyError.__init__" keTail :=
 ⟨fun hT hC hi hb hr hq => call2 F.excBase_LookupError (has_of (by decide +kernel) hT) (has_of (by decide +kernel) hT) (has_of (by decide +kernel) hT) hC hi hb hr hq,
  fun hT hC he hr hq => init_ke (has_of (by decide +kernel) hT) hC he hr hq, _, store_KeyError⟩
/-- an own exception class over a built-in one whose __init__ is initId -/
structure OexG (K : PySem.W.Frag) (C : Addr) (initId : String) : Prop where
 ex : ∃ newId bmB, Bas newId initId bmB ∧ PySem.W.excInitIn K C bmB newId = true ∧ PySem.W.excOver K C bmB = true
 hd : PySem.W.hasDictIn K C = true
 sa : PySem.W.findIn K (.ref C) "__setattr__" = some (some (.builtin "object.__setattr__"))
 exC : PySem.W.subIn K (.ref C) (.type "BaseException") = some true
 tyC : PySem.W.typeIn K (.ref C) = some (.type "type")
 kC : PySem.W.keepIn K (.ref C) = true
section
open Builtin Builtin.ObjectAttr
variable {prog : Program} {w : World} {A : Around} {E : Value → Shared → Prop} {R : Result → Shared → Prop} {hp : Heap} {g : Array GenState} {d : Drawn} {t : Nat} {os : OsState} {K : PySem.W.Frag} {name : Str} {tk : Tok} {v : Value} {x C dx : Addr} {fv : Array Value} {i : String}
theorem osaG_new (T : OexG K C i) (X : K.In hp) (hx : hp.get? x = some { cls := .ref C, data := .fields fv }) (ha : PySem.W.findIn K (.ref C) name = some none)
  (hq : ∀ h' tk' dx, (∀ b o, b ≠ x → hp.get? b = some o → h'.get? b = some o) → hp.objs.size ≤ dx → dx ≠ x → h'.get? x = some { cls := .ref C, dict := some dx, data := .fields fv } →
   h'.Ns1 dx (fun y => if y = name then some v else none) → R (.ok (.ret .none)) ⟨h', g, d, tk', os⟩) :
  codeAny (model prog w) A (.call (.builtin "object.__setattr__") ⟨[.ref x, .str name tk, v], []⟩) R ⟨hp, g, d, t, os⟩ := by
 obtain ⟨newId, bmB, B, qi, qo⟩ := T.ex
 obtain ⟨Bn, SF⟩ := B.st
 obtain ⟨cd, hcd, hh⟩ := PySem.W.any_some T.hd
 have hxs : x ≠ hp.objs.size := Nat.ne_of_lt (Heap.lt_size hx)
 have I : PySem.W.InstAt hp x { cls := .ref C, data := .fields fv } C none := ⟨hx, rfl, rfl, trivial⟩
 have hcls : PySem.W.Looks (model prog w) hp (classData C) cd := PySem.W.looks_clsIn X hcd
 refine PySem.W.osa_openX (s := ⟨hp, g, d, t, os⟩) SF X I qo (r := none) (by unfold PySem.W.takerIn; rw [ha]; rfl) fun b => ?_
 show wpAny _ _ (storeInOwnDict (.ref x) (.ref C) (.str name tk) name v b) _ _ _
 obtain ⟨nm, bs, mro, ns, qn, hd, sn, sb, ab, col, del⟩ := cd
 dsimp only at hh
 subst hh
 unfold storeInOwnDict ownDictForStores
 repeat (first | with_reducible refine store_in_new ?_ ?_ | with_reducible refine wpAny_loadPart_at hx ?_ | with_reducible refine hcls.at ?_ | wp_step)
 ·exact ⟨_, #[], _, (Heap.get?_update_ne _ _ _ _ hxs.symm).trans (Heap.get?_push_at rfl rfl), rfl, fun e he => absurd he (by simp), fun _ => rfl⟩
 ·intro h' tk' hn' hs
  have hx₁ : (hp.push { cls := .type "dict", data := .dict #[] }).get? x = some { cls := .ref C, data := .fields fv } := Heap.get?_push_of_some _ hx
  refine hq h' tk' hp.objs.size (fun b o hb ho => ?_) (Nat.le_refl _) hxs.symm ?_ hn'
  ·exact (hs.2 b (Nat.ne_of_lt (Heap.lt_size ho))).trans ((Heap.get?_update_ne _ _ _ _ hb).trans (Heap.get?_push_of_some _ ho))
  ·exact (hs.2 x hxs).trans (Heap.get?_update_self _ hx₁ rfl)
theorem osaG_old {m0 : Str → Option Value} {nl : List Str} (T : OexG K C i) (X : K.In hp) (hx : hp.get? x = some { cls := .ref C, dict := some dx, data := .fields fv }) (hns : hp.Ns1 dx m0) (hw : Within m0 nl) (hz : nl.length ≤ 1000) (ha : PySem.W.findIn K (.ref C) name = some none)
  (hq : ∀ h' tk', (∀ b o, b ≠ dx → hp.get? b = some o → h'.get? b = some o) → h'.Ns1 dx (fun y => if y = name then some v else m0 y) → R (.ok (.ret .none)) ⟨h', g, d, tk', os⟩) :
  codeAny (model prog w) A (.call (.builtin "object.__setattr__") ⟨[.ref x, .str name tk, v], []⟩) R ⟨hp, g, d, t, os⟩ := by
 obtain ⟨newId, bmB, B, qi, qo⟩ := T.ex
 obtain ⟨Bn, SF⟩ := B.st
 obtain ⟨cd, hcd, hh⟩ := PySem.W.any_some T.hd
 obtain ⟨oD, esD, epD, hoD, hdD, _⟩ := hns.count hw
 have I : PySem.W.InstAt hp x { cls := .ref C, dict := some dx, data := .fields fv } C (some oD) := ⟨hx, rfl, rfl, hoD⟩
 have hcls : PySem.W.Looks (model prog w) hp (classData C) cd := PySem.W.looks_clsIn X hcd
 refine PySem.W.osa_openX (s := ⟨hp, g, d, t, os⟩) SF X I qo (r := none) (by unfold PySem.W.takerIn; rw [ha]; rfl) fun b => ?_
 show wpAny _ _ (storeInOwnDict (.ref x) (.ref C) (.str name tk) name v b) _ _ _
 obtain ⟨nm, bs, mro, ns, qn, hd, sn, sb, ab, col, del⟩ := cd
 dsimp only at hh
 subst hh
 unfold storeInOwnDict ownDictForStores
 repeat (first | with_reducible refine PySem.OEX.store_in_old hns hw hz ?_ | with_reducible refine wpAny_loadPart_at hx ?_ | with_reducible refine hcls.at ?_ | wp_step)
 intro h' tk' hn' hs
 exact hq h' tk' (fun b o hb ho => (hs.2 b hb).trans ho) hn'
end
section
variable {X : Cx} {pins : List (Addr × Obj)} {σ : L2.St} {H : Hp} {s : Shared} {a C dx : Addr} {f : Str} {y : V} {u : Value} {fs : List (Str × V)} {Q : Unit → Shared → Prop} {E : Value → Shared → Prop} {A : Around} {i : String}
theorem ostG_new (T : OexG X.K C i) (I : Inv X pins σ H s) (e : H a = some (exo a C none)) (hno : PySem.W.findIn X.K (.ref C) f = some none) (ry : RelV y u)
  (h : ∀ dx s', H dx = none → dx ≠ a → Inv X pins σ (upd (upd H dx (exd dx [(f, y)])) a (exo a C (some dx))) s' → Q () s') : wpAny (model X.prog X.w) A (setAttr (.ref a) f u) Q E s := by
 obtain ⟨t1, ho⟩ := exo_at I.hok e
 obtain ⟨hp, g, d, t, os⟩ := s
 refine PySem.W.set_plain I.kIn (ox := { cls := .ref C, dict := none, data := .fields #[.ref t1, .none, .none, .none, .bool false, .none] }) (od := none) ⟨ho, rfl, rfl, trivial⟩ T.sa ?_
 refine osaG_new T I.kIn ho hno (fun h' tk' dx k dn dne hx hn => ?_)
 have hnd : H dx = none := I.hok.fresh dn
 have nd : ∀ {b : Addr} {o : Obj}, hp.get? b = some o → b ≠ dx := fun {b o} q => Nat.ne_of_lt (Nat.lt_of_lt_of_le (Heap.lt_size q) dn)
 have na : ∀ {b : Addr}, H b = none → b ≠ a := fun {b} n z => by
  rw [z, e] at n
  cases n
 have Un1 : Un X.fs [] H (upd (upd H dx (exd dx [(f, y)])) a (exo a C (some dx))) hp h' := {
  keep := fun b o q n _ _ => k b o (na n) q
  slot := fun b o q n _ _ => ⟨o.slots, k b o (na n) q⟩
  free := fun b o q n _ => by rw [upd_ne (na n), upd_ne (nd q)]; exact n
  there := fun b o q _ => by
   by_cases hb : b = a
   ·exact ⟨_, by rw [hb]; exact hx⟩
   ·exact ⟨o, k b o hb q⟩
  tups := fun b xs q => by rw [upd_ne (at_ne e q exo_tup), upd_ne (ne_of_none q hnd)]; exact q
  frzs := fun b o v q => by rw [upd_ne (at_ne e q exo_frz), upd_ne (ne_of_none q hnd)]; exact q
  tbls := fun b ps q => ⟨#[], by rw [upd_ne (at_ne e q exo_tbl), upd_ne (ne_of_none q hnd), q]; simp⟩ }
 refine h dx _ hnd dne (I.un (t' := tk') Un1 fun b o q => ?_)
 by_cases hb : b = a
 ·subst hb
  rw [upd_same] at q
  cases q
  exact exo_ok hx
 ·rw [upd_ne hb] at q
  by_cases hd : b = dx
  ·subst hd
   rw [upd_same] at q
   cases q
   exact exd_ok hn (relO_put (fs := []) ry fun g => True.intro)
  ·rw [upd_ne hd] at q
   exact (I.hok b o q).stay (fun c v hc z => k c v (by
     rcases hc with hc | hc
     ·rw [hc]
      exact hb
     ·exact at_ne e hc exo_own) z)
    (fun c hc => by rw [upd_ne (at_ne e hc exo_own), upd_ne (ne_of_none hc hnd)]; exact hc) (fun c xs hc => by rw [upd_ne (at_ne e hc exo_tup), upd_ne (ne_of_none hc hnd)]; exact hc)
theorem ostG_old (T : OexG X.K C i) (I : Inv X pins σ H s) (e : H a = some (exo a C (some dx))) (ed : H dx = some (exd dx fs)) (hl : fs.length ≤ 900) (hno : PySem.W.findIn X.K (.ref C) f = some none) (ry : RelV y u)
  (h : ∀ s', Inv X pins σ (upd H dx (exd dx ((f, y) :: fs))) s' → Q () s') : wpAny (model X.prog X.w) A (setAttr (.ref a) f u) Q E s := by
 obtain ⟨t1, ho⟩ := exo_at I.hok e
 obtain ⟨mA, hns, rel⟩ := exd_at I.hok ed
 have hw := within_of rel
 obtain ⟨hp, g, d, t, os⟩ := s
 obtain ⟨oD, _, _, hoD, _, _⟩ := hns.count hw
 refine PySem.W.set_plain I.kIn (ox := { cls := .ref C, dict := some dx, data := .fields #[.ref t1, .none, .none, .none, .bool false, .none] }) (od := some oD) ⟨ho, rfl, rfl, hoD⟩ T.sa ?_
 refine osaG_old T I.kIn ho hns hw (by rw [List.length_map]; omega) hno (fun h' tk' k hn => ?_)
 have hd : ∃ o, h'.get? dx = some o := by
  obtain ⟨o, _, _, e', _⟩ := hn
  exact ⟨o, e'⟩
 exact h _ (I.write (t' := tk') (x := dx) (e := dx) (o := exd dx ((f, y) :: fs)) (by rw [ed]; exact True.intro) (.inl rfl) k hd (exd_ok hn (relO_put ry rel)))
theorem oinitG {us : List Value} {Q : Value → Shared → Prop} (T : OexG X.K C i) (I : Inv X pins σ H s) (e : H a = some (exo a C none)) (hl : us.length ≤ sizeLine) (h : ∀ s', Inv X pins σ H s' → Q .none s') :
  wpAny (model X.prog X.w) A (call (.builtin i) (.ref a :: us)) Q E s := by
 obtain ⟨newId, bmB, B, qi, qo⟩ := T.ex
 obtain ⟨nm, N, q, bs, bm, hdct, sn, sub, ab, col, dd, k0, k1, k2, k3, k5, hC, hT⟩ := PySem.W.excInit_of I.kIn qi
 obtain ⟨t1, ho⟩ := exo_at I.hok e
 obtain ⟨hp, g, d, t, os⟩ := s
 refine wpAny_call (B.init hT hC ho hl fun h' t2 k hx => ?_)
 have J := I.write (t' := t) (x := a) (e := a) (o := exo a C none) (by rw [e]; exact True.intro) (.inl rfl) k ⟨_, hx⟩ (exo_ok hx)
 have eu : upd H a (exo a C none) = H := by
  funext b
  by_cases hb : b = a
  ·rw [hb, upd_same, e]
  ·rw [upd_ne hb]
 rw [eu] at J
 exact h _ J
end
end DL
/-! DL38: the __init__ of an own exception class, and the class called. -/
namespace DL
open PySem L2 PySem.Spec PyProof.Rows PySem.HandSPX
/-- bv.__init__ is the built-in i -/
def GMi (X : Cx) (bv : Value) (i : String) : Prop := ∀ (pins : List (Addr × Obj)) (σ : L2.St) (H : Hp) (s : Shared) (pl : Sem Bool) (A : Around) (Q : Value × List Value → Shared → Prop) (E : Value → Shared → Prop), Inv X pins σ H s → Q (.builtin i, []) { s with toks := s.toks + 1 } → wpAny (model X.prog X.w) A (getMethod bv "__init__" pl) Q E s
theorem gm_own {X : Cx} {B : Addr} {i : String} (hg : PySem.W.specialIn X.K (.ref B) "__getattribute__" = some (some (.builtin "type.__getattribute__"))) (hr : PySem.W.readsIn X.K B (.type "type") = true) (e : PySem.W.findCls X.K (.ref B) (.type "type") "__init__" = some (.val (.builtin i))) (hh : PySem.W.handedIn (.builtin i) = true := by decide +kernel) : GMi X (.ref B) i := by
 intro pins σ H s pl A Q E I h
 exact PySem.W.method_cls I.kIn hg (PySem.W.cls_value I.kIn hr e hh h)
def tInit (K : PySem.W.Frag) (i : String) (ta : TA) : TE := fun σ H Q => ta σ H fun vs H1 => ∃ (a C : Addr) (ws : List V), vs = .ref a :: ws ∧ ws.length ≤ 1000 ∧ OexG K C i ∧ H1 a = some (exo a C none) ∧ Q .non H1
def tOstG (K : PySem.W.Frag) (i : String) (f : Str) (to te : TE) : TS := fun D σ H => te σ H fun y H1 => to σ H1 fun x H2 => ∃ a C : Addr, x = .ref a ∧ OexG K C i ∧ PySem.W.findIn K (.ref C) f = some none ∧
 ((H2 a = some (exo a C none) ∧ ∀ dx, H2 dx = none → dx ≠ a → D.nx σ (upd (upd H2 dx (exd dx [(f, y)])) a (exo a C (some dx)))) ∨
  ∃ (dx : Addr) (fs : List (Str × V)), H2 a = some (exo a C (some dx)) ∧ H2 dx = some (exd dx fs) ∧ fs.length ≤ 900 ∧ D.nx σ (upd H2 dx (exd dx ((f, y) :: fs))))
section
variable {X : Cx} {o e : Expr} {es : List Expr} {to te : TE} {ta : TA} {f x : Str} {p p' p1 p2 pos : Pos} {i : String} {bv : Value}
theorem pe_initG {pl : Sem Bool} (hn : Names X x bv) (gm : GMi X bv i) (ha : PA X (e :: es) ta)
  (hc : eval (.Call (.Attribute (.Name x p1) "__init__" p2) (e :: es) [] pos) X.env = (do
   let ov ← eval (.Name x p1) X.env
   standAt p2.atName
   let (f, first) ← holding [ov] (getMethod ov "__init__" pl)
   callWith pos f first (backTo pos (starEach (e :: es) X.env)) (backToKw pos (keywordEach [] X.env))) := by rfl)
  (he : starEach (e :: es) X.env = (false, eval e X.env) :: starEach es X.env := by rfl) (hpl : (backTo pos (starEach es X.env)).any (·.1) = false := by rfl) :
  PE X (.Call (.Attribute (.Name x p1) "__init__" p2) (e :: es) [] pos) (tInit X.K i ta) := by
 refine ⟨fun pins s σ H Q I h => ?_⟩
 have go : wpAny (model X.prog X.w) X.A (getMethod bv "__init__" pl) (fun fx s₂ => wpAny (model X.prog X.w) X.A (callWith pos fx.1 fx.2 (backTo pos (starEach (e :: es) X.env)) (backToKw pos (keywordEach [] X.env))) (EP X pins σ Q) X.xe s₂) X.xe s := by
  refine gm pins σ H s pl X.A _ X.xe I ?_
  show wpAny _ _ (callWith pos (Value.builtin i) [] (backTo pos (starEach (e :: es) X.env)) []) _ _ _
  refine PyProof.Rows.callWith_method1 (thn (ha.run pos pins _ σ H _ (I.tok _) h) fun us s1 ⟨vs, H1, I1, r1, a, C, ws, ev, hl, T, ea, q⟩ => ?_) he hpl
  subst ev
  cases r1 with
  | @cons _ u0 _ ur ra rw' =>
   obtain rfl : u0 = Value.ref a := ra
   have hlen : ur.length ≤ sizeLine := by
    rw [← Paired.length rw', sizeLine_eq]
    omega
   exact oinitG T I1 ea hlen fun s' J => ⟨.non, H1, J, rfl, q⟩
 obtain ⟨hg, hdb, hm | ⟨hm, hv, hnn⟩⟩ := hn
 ·exact PySem.W.methodCall_KW (ld_glob I hg hm go hdb) hc
 ·exact PySem.W.methodCall_KW (ld_blt I hg hm hv go hnn hdb) hc
theorem ps_ostG (ho : PE X o to) (he : PE X e te) (hs : swapsWith e (some (.Attribute o f p')) pos.line X.env = pure false := by rfl) : PS X (.Assign [.Attribute o f p'] e pos) (tOstG X.K i f to te) := by
 refine ⟨fun pins s σ H D I h => ?_⟩
 refine plainObj_wpAny_Assign_Attribute (thn (he.run pins s σ H _ I h) fun v s1 ⟨y, H1, I1, r1, q1⟩ => thn (ho.run pins s1 σ H1 _ I1 q1) fun u s2 ⟨x, H2, I2, r2, a, C, ex, T, hno, q⟩ => ?_) hs
 subst ex
 obtain rfl : u = Value.ref a := r2
 rcases q with ⟨ea, q⟩ | ⟨dx, fs, ea, ed, hl, q⟩
 ·exact ostG_new T I2 ea hno r1 fun dx s' n ne J => ⟨σ, _, J, q dx n ne⟩
 ·exact ostG_old T I2 ea ed hl hno r1 fun s' J => ⟨σ, _, J, q⟩
end
/-! ### what such an __init__ keeps -/
/-- no field; one; two -/
def sp0 (C : Addr) : Sp := fun vs H Q _ => ∃ a, vs = [.ref a] ∧ H a = some (exo a C none) ∧ Q .non H
def sp1 (C : Addr) (f : Str) : Sp := fun vs H Q _ => ∃ a y, vs = [.ref a, y] ∧ H a = some (exo a C none) ∧ ∀ dx, H dx = none → dx ≠ a → Q .non (upd (upd H dx (exd dx [(f, y)])) a (exo a C (some dx)))
def sp2 (C : Addr) (f g : Str) : Sp := fun vs H Q _ => ∃ a y z, vs = [.ref a, y, z] ∧ H a = some (exo a C none) ∧ ∀ dx, H dx = none → dx ≠ a → Q .non (upd (upd (upd H dx (exd dx [(f, y)])) a (exo a C (some dx))) dx (exd dx [(g, z), (f, y)]))
section
variable {P : Program} {w : World} {K : PySem.W.Frag} {mg : Str → Option Value} {base : Heap} {CX : CXT}
variable {B m f g p1 p2 : Str} {bv : Value} {i : String} {C : Addr} {j : Nat} {a1 a2 a3 a4 a5 a6 a7 a8 a9 b5 b6 b7 b8 : Pos}
/-- the call of the base's __init__ -/
abbrev bodyI (B m : Str) (j : Nat) (a1 a2 a3 a4 a5 a6 : Pos) : Stmt := .Expr (.Call (.Attribute (.Name B a1) "__init__" a2) [.Name "self" a3, .Constant (.str m) j a4] [] a5) a6
abbrev bodyF (f p : Str) (a1 a2 a3 a4 : Pos) : Stmt := .Assign [.Attribute (.Name "self" a1) f a2] (.Name p a3) a4
end
end DL
/-! DL39: an own exception class called. -/
namespace DL
open PySem L2 PySem.Spec PyProof.Rows PySem.HandSPX
/-- where the making ends -/
def EndG (C a : Addr) (H1 H2 : Hp) (Q : XK) : Prop := (H2 = upd H1 a (exo a C none) ∧ Q (.ref C) none H1) ∨
 ∃ (d : Addr) (fs : List (Str × V)), H2 a = some (exo a C (some d)) ∧ H2 d = some (exd d fs) ∧ H1 d = none ∧ Q (.ref C) (some d) (upd (del H2 a) d (.xd fs))
section
variable {X : Cx} {pins : List (Addr × Obj)} {σ : L2.St} {H1 H2 : Hp}
/-- one without fields is let go -/
theorem mk_none {hp hp2 h2 : Heap} {g1 g2 : Array GenState} {d1 d2 : Drawn} {t1 t2 : Nat} {os1 os2 : OsState} {a C : Addr} (I1 : Inv X pins σ H1 ⟨hp, g1, d1, t1, os1⟩)
  (ha : hp.objs.size ≤ a) (k : ∀ b o, hp.get? b = some o → hp2.get? b = some o) (un : Un (frs X.stack) [] (upd H1 a (exo a C none)) (upd H1 a (exo a C none)) hp2 h2) (hok : HOk X.prog X.w (upd H1 a (exo a C none)) h2) (ho : os2 = os1) (hb : AllBare g2) :
  ∃ (t0 : Addr) (G : Heap), Inv X pins σ H1 ⟨G, g2, d2, t2, os2⟩ ∧ (∀ b o, G.get? b = some o → h2.get? b = some o) ∧ G.get? a = none ∧
   h2.get? a = some ({ cls := .ref C, dict := none, data := .fields #[.ref t0, .none, .none, .none, .bool false, .none] } : Obj) ∧ H1 a = none := by
 have ea : upd H1 a (exo a C none) a = some (exo a C none) := upd_same
 obtain ⟨t0, hoe⟩ := exo_at hok ea
 have hn : H1 a = none := I1.hok.fresh ha
 obtain ⟨G, g1', g2'⟩ := restrict h2 fun b => decide (b ≠ a)
 have gk : ∀ b, b ≠ a → G.get? b = h2.get? b := fun b hb => g1' b (decide_eq_true hb)
 have ge : G.get? a = none := g2' a (by simp)
 have nha : ∀ {b : Addr} {o : Obj}, hp.get? b = some o → b ≠ a := fun {b o} z => Nat.ne_of_lt (Nat.lt_of_lt_of_le (Heap.lt_size z) ha)
 have up : ∀ {b : Addr}, b ≠ a → H1 b = none → upd H1 a (exo a C none) b = none := fun {b} hb n => by rw [upd_ne hb]; exact n
 have U : Un (frs X.stack) [] H1 H1 hp G := {
  keep := fun b o z n hf hx => by
   rw [gk b (nha z)]
   exact un.keep b o (k b o z) (up (nha z) n) hf hx
  slot := fun b o z n hf hx => by
   rw [gk b (nha z)]
   exact un.slot b o (k b o z) (up (nha z) n) hf hx
  free := fun b o z n hx => n
  there := fun b o z hx => by
   rw [gk b (nha z)]
   exact un.there b o (k b o z) hx
  tups := fun b xs z => z
  frzs := fun b o v z => z
  tbls := fun b ps z => ⟨#[], by rw [z]; simp⟩ }
 have hok3 : HOk X.prog X.w H1 G := fun b o z => by
  have hba : b ≠ a := ne_of_none z hn
  have noa : ∀ {c : Addr} {o : HO}, H1 c = some o → c ≠ a := fun {c o} hc => ne_of_none hc hn
  refine (hok b o (by rw [upd_ne hba]; exact z)).stay (fun c v hc y => ?_) (fun c hc => ?_) (fun c xs hc => ?_)
  ·have hca : c ≠ a := by
    rcases hc with hc | hc
    ·rw [hc]
     exact hba
    ·exact at_ne ea hc exo_own
   rw [gk c hca]
   exact y
  ·rw [upd_ne (at_ne ea hc exo_own)] at hc
   exact hc
  ·rw [upd_ne (at_ne ea hc exo_tup)] at hc
   exact hc
 have J : Inv X pins σ H1 ⟨G, g2, d2, t2, os2⟩ := I1.call' (ch := []) ho U hok3 hb (fun b z => absurd z (by simp))
 refine ⟨t0, G, J, fun b o z => ?_, ge, hoe, hn⟩
 by_cases hba : b = a
 ·rw [hba, ge] at z
  cases z
 ·exact (gk b hba).symm.trans z
theorem run_oex {k : Nat} {C fI : Addr} {fd : FuncData} {ps : List Str} {sp : Sp} {i : String} {s1 : Shared} {us : List Value} {vs : List V} {Q : XK} (T : OexG X.K C i) (iC : PySem.W.findIn X.K (.ref C) "__init__" = some (some (.ref fI))) (tI : PySem.W.typeIn X.K (.ref fI) = some (.type "function"))
  (F1 : FnOk X.prog X.w X.K X.mg X.base (L2.CX X.prog X.w) k fI fd ps sp) (hr : Room (k + 1) X.A) (hb : Binds X.K fd ps []) (I1 : Inv X pins σ H1 s1) (r1 : Vals vs us) (hz : vs.length ≤ 1000)
  (q1 : ∀ a, H1 a = none → sp (.ref a :: vs) (upd H1 a (exo a C none)) (fun v H2 => v = .non ∧ EndG C a H1 H2 Q) (fun _ _ _ => False)) : wpAny (model X.prog X.w) X.A (call (.ref C) us) (MkP X pins σ Q) X.xe s1 := by
 obtain ⟨newId, bmB, B, qi, qo⟩ := T.ex
 obtain ⟨nm, N, q, bs, bm, hdct, sn, sub, ab, col, dd, k0, k1, k2, k3, k5, hC, hT⟩ := PySem.W.excInit_of I1.kIn qi
 obtain ⟨hp, g, dr, tk, os⟩ := s1
 have hsz : hp.objs.size ≤ hp.objs.size + 1 := Nat.le_succ _
 have hn : H1 (hp.objs.size + 1) = none := I1.hok.fresh hsz
 have hq := q1 (hp.objs.size + 1) hn
 have kk : ∀ b o, hp.get? b = some o → ((hp.push (PySem.W.kdv_tup us)).push (excO C hp.objs.size)).get? b = some o := fun b o e => Heap.get?_push_of_some _ (Heap.get?_push_of_some _ e)
 have hget : ((hp.push (PySem.W.kdv_tup us)).push (excO C hp.objs.size)).get? (hp.objs.size + 1) = some (excO C hp.objs.size) := by heap_get
 have I2 : Inv X pins σ (upd H1 (hp.objs.size + 1) (exo (hp.objs.size + 1) C none)) ⟨(hp.push (PySem.W.kdv_tup us)).push (excO C hp.objs.size), g, dr, tk, os⟩ :=
  I1.laid (t' := tk) (a := hp.objs.size + 1) (o := exo (hp.objs.size + 1) C none) (h' := (hp.push (PySem.W.kdv_tup us)).push (excO C hp.objs.size)) kk hsz (exo_ok hget)
 have r2 : Vals (V.ref (hp.objs.size + 1) :: vs) (Value.ref (hp.objs.size + 1) :: us) := .cons rfl r1
 have hl : (Value.ref (hp.objs.size + 1) :: us ++ []).length = ps.length := by
  have e := r2.length
  rw [F1.len _ _ _ _ hq] at e
  rw [List.append_nil]
  exact e.symm
 have hus : us.length ≤ sizeLine := by
  rw [← Paired.length r1, sizeLine_eq]
  omega
 have b := hb ⟨(hp.push (PySem.W.kdv_tup us)).push (excO C hp.objs.size), g, dr, tk, os⟩ (Value.ref (hp.objs.size + 1) :: us) I2.kIn hl
 rw [List.append_nil] at b
 refine wpAny_call (B.call hT hC (PySem.W.looks_findIn I1.kIn iC) (fun self => PySem.W.bind_fn I1.kIn self tI) hus
  (codeAny_mono (F1.run _ X.stack _ _ ⟨Value.ref (hp.objs.size + 1) :: us, []⟩ (Value.ref (hp.objs.size + 1) :: us) _ _ (fun _ _ _ => False) (hr.make C us []) (I2.env0.make C us []) b r2 hq) fun r s' hq' => ?_))
 cases r with
 | error er =>
  obtain ⟨_, _, _, _, _, _, _, _, _, _, _, _, z⟩ := hq'
  exact z.elim
 | ok fl =>
  cases fl with
  | ret u =>
   obtain ⟨v, H2, os2, bare2, un2, hok2, rv, ev, en⟩ := hq'
   subst ev
   obtain ⟨h2, g2, d2, t2, os'⟩ := s'
   rcases en with ⟨rfl, q2⟩ | ⟨d, fs, ea, ed, hd1, q2⟩
   ·obtain ⟨t0, G, J, kG, ge, hoe, na⟩ := mk_none (d2 := d2) (t2 := t2) I1 hsz kk un2 hok2 os2 bare2
    exact ⟨rv, _, _, _, ⟨G, g2, d2, t2, os'⟩, H1, .ref C, none, rfl, J, kG, ge, hoe, ⟨rfl, rfl⟩, rfl, rfl, na, rfl, bare2, raises_own T.exC T.tyC, q2⟩
   ·exact ⟨rv, mk_end (raises_own T.exC T.tyC) I1 hsz kk un2 hok2 os2 bare2 ea ed hd1 q2⟩
  | next => exact False.elim hq'
  | brk => exact False.elim hq'
  | cont => exact False.elim hq'
end
end DL
/-! DL40: raise C(e, ..). -/
namespace DL
open PySem L2 PySem.Spec PyProof.Rows PySem.HandSPX
def tI1 (K : PySem.W.Frag) (i : String) (f : Str) : TS := fun D σ H => ∃ a C y, σ[0]? = some (some (.ref a)) ∧ σ[1]? = some (some y) ∧ OexG K C i ∧ PySem.W.findIn K (.ref C) f = some none ∧ H a = some (exo a C none) ∧ ∀ dx, H dx = none → dx ≠ a → D.nx σ (upd (upd H dx (exd dx [(f, y)])) a (exo a C (some dx)))
section
variable {X : Cx} {B m f g p q : Str} {bv : Value} {i : String} {j : Nat} {a1 a2 a3 a4 a5 a6 b1 b2 b3 b4 c1 c2 c3 c4 : Pos}
theorem pss_init1 {pl : Sem Bool} (hc : eval (.Call (.Attribute (.Name B a1) "__init__" a2) [.Name "self" a3, .Constant (.str m) j a4] [] a5) X.env = (do
   let ov ← eval (.Name B a1) X.env
   standAt a2.atName
   let (f, first) ← holding [ov] (getMethod ov "__init__" pl)
   callWith a5 f first (backTo a5 (starEach [.Name "self" a3, .Constant (.str m) j a4] X.env)) (backToKw a5 (keywordEach [] X.env))) := by rfl) (hn : Names X B bv) (gm : GMi X bv i) (h0 : X.N[0]? = some ("self" : Str)) (v0 : Vis X.env.scope "self") (h1 : X.N[1]? = some p) (v1 : Vis X.env.scope p) (d1 : (p == ("__debug__" : Str)) = false) (e1 : (p == ("__classdict__" : Str)) = false) :
  PSs X [bodyI B m j a1 a2 a3 a4 a5 a6, bodyF f p b1 b2 b3 b4] (tI1 X.K i f) :=
 pss_imp (pss_cons (ps_expr (pe_initG (i := i) hn gm (pa_cons (pe_var h0 v0) (pa_cons pe_str pa_nil)) hc)) (pss_one (ps_ostG (i := i) (pe_var h0 v0) (pe_var h1 v1 d1 e1)))) fun D σ H ⟨a, C, y, e0, e1, T, hf, ea, q⟩ =>
  ⟨.ref a, e0, a, C, [.str m], rfl, by show 1 ≤ 1000; decide, T, ea, y, e1, .ref a, e0, a, C, rfl, T, hf, .inl ⟨ea, q⟩⟩
end
def graise (c : Nat) (ns : List Str) (fa : FA) : FS := fun ρ μ => (fa ρ μ).to ρ fun ds μ1 => if ds.length = ns.length then .ex ρ c (ns.zip ds) μ1 else .bad
@[simp] theorem ap_raise (c : Nat) (ns : List Str) (fa : FA) (ρ : En) (μ : Mu) : graise c ns fa ρ μ = (fa ρ μ).to ρ fun ds μ1 => if ds.length = ns.length then .ex ρ c (ns.zip ds) μ1 else .bad := of_eq_true (eq_self _)
theorem seqSA {K : PySem.W.Frag} {E : WX} {fa : FA} {k : List D → Mu → O} {σ : L2.St} {H : Hp} {W : Wd} {ρ : En} {μ : Mu} {Z : Ends} {Q1 : List V → Hp → Prop} (p : postS K E W H ((fa ρ μ).to ρ k) Z) (ok : Ok K W H μ) (en : Envs K W σ ρ)
  (hk : ∀ ds μ1 W1 xs H1, Go W H W1 H1 → Ok K W1 H1 μ1 → Envs K W1 σ ρ → Reps K W1 xs ds → postS K E W1 H1 (k ds μ1) Z → Q1 xs H1) : rA K E fa σ H Q1 := by
 refine ⟨W, ρ, μ, ok, en, ?_⟩
 revert p
 cases h : fa ρ μ with
 | ok ds μ1 => exact fun p W1 x H1 g o r => hk ds μ1 W1 x H1 g o (en.mono g.le) r (postS.mono g p)
 | ex c fs μ1 => exact fun p W' H' d g o r => p W' σ H' d g o (en.mono g.le) r
 | bad => exact fun p => p
section
variable {X : Cx} {E : WX} {k c : Nat} {fI : Addr} {fd : FuncData} {ps : List Str} {i : String} {x f g : Str} {p pos pos' : Pos} {e : Expr} {es : List Expr} {fa : FA}
theorem ds_raise1 (T : OexG X.K (cl X.K c) i) (iC : PySem.W.findIn X.K (.ref (cl X.K c)) "__init__" = some (some (.ref fI))) (tI : PySem.W.typeIn X.K (.ref fI) = some (.type "function"))
  (F1 : FnOk X.prog X.w X.K X.mg X.base (L2.CX X.prog X.w) k fI fd ps (sp1 (cl X.K c) f)) (hb : Binds X.K fd ps []) (C : Cal X E (k + 1)) (hm : X.mg x = some (.ref (cl X.K c))) (ha : DA X E [e] fa) (hc : X.calm = true := by rfl) (hg : Gl X x := by rfl) (hdb : (x == ("__debug__" : Str)) = false := by decide)
  (he : starEach [e] X.env = (false, eval e X.env) :: starEach [] X.env := by rfl) :
  DS X E (.Raise (some (.Call (.Name x p) [e] [] pos)) none pos') (graise c [f] fa) := by
 have pm : PMk X (.Call (.Name x p) [e] [] pos) (fun σ H Q => rA X.K E fa σ H fun vs H1 => ∃ y, vs = [y] ∧ ∀ d, H1 d = none → Q (.ref (cl X.K c)) (some d) (upd H1 d (.xd [(f, y)]))) := fun pins s σ H Q I q => by
  refine wpAny_Call_Name_kw (ld_glob I hg hm ?_ hdb)
  refine PySem.W.callWith_K (h₀ := X.base) I.ok.mod.kin T.kC (thn (ha.run pos pins s σ H _ I q) fun us s1 ⟨vs, H1, I1, r1, y, ev, q1⟩ => ⟨I1.kIn, ?_⟩) he (by rfl)
  subst ev
  refine run_oex T iC tI F1 C.room hb I1 r1 (by show 1 ≤ 1000; decide) fun a ha => ⟨a, y, rfl, upd_same, fun dx hd ne => ⟨rfl, .inr ⟨dx, [(f, y)], upd_same, by rw [upd_ne ne, upd_same], by rw [upd_ne ne] at hd; exact hd, ?_⟩⟩⟩
  have hd1 : H1 dx = none := by rw [upd_ne ne] at hd; exact hd
  have eq : upd (del (upd (upd (upd H1 a (exo a (cl X.K c) none)) dx (exd dx [(f, y)])) a (exo a (cl X.K c) (some dx))) a) dx (.xd [(f, y)]) = upd H1 dx (.xd [(f, y)]) := by
   funext b
   by_cases h1 : b = dx
   ·rw [h1, upd_same, upd_same]
   ·rw [upd_ne h1, upd_ne h1]
    by_cases h2 : b = a
    ·rw [h2, del_same, ha]
    ·rw [del_ne h2, upd_ne h2, upd_ne h1, upd_ne h2]
  rw [eq]
  exact q1 dx hd1
 refine ps_imp (ps_raise hc C.take pm) fun Z σ H ⟨W, ρ, μ, ok, en, p⟩ => ?_
 refine seqSA p ok en fun ds μ1 W1 xs H1 g1 o1 en1 r p1 => ?_
 match ds, r, p1 with
 | [d], .cons (v := v) r .nil, p1 =>
  refine ⟨v, rfl, fun a ha => ?_⟩
  have g2 := Go.new (o := .xd [(f, v)]) o1 ha
  have o2 := Ok.new (o := .xd [(f, v)]) o1 ha
  exact p1 _ σ _ (some a) g2 o2 (en1.mono g2.le) (.inr ⟨a, [f], [v], [d], rfl, upd_same, rfl, rfl, .cons (r.mono g2.le) .nil⟩)
 | [], .nil, p1 => exact p1.elim
 | _ :: _ :: _, .cons _ (.cons _ _), p1 =>
  have p1 : postS X.K E W1 H1 (if _ then _ else .bad) Z := p1
  rw [if_neg (by simp)] at p1
  exact p1.elim
end
end DL
/-! DL41: try, with clauses `except X as e:` and `except X:` in any row. -/
namespace DL
open PySem L2 PySem.Spec PyProof.Rows PySem.HandSPX
abbrev Hd := Value × Option Nat × (Addr → Value → Option Addr → TS)
/-- behind the suite of a clause that binds slot i -/
def offE (D : Ends) (i : Nat) (a : Addr) (cls : Value) (d : Option Addr) : Ends := { nx := fun σ' H' => D.nx (σ'.set i none) H' ∨ ∃ C, cls = .ref C ∧ D.nx (σ'.set i none) (upd H' a (exv a C d)), rt := D.rt, bk := fun σ' H' => D.bk (σ'.set i none) H', ct := fun σ' H' => D.ct (σ'.set i none) H' }
def inH (ts : Addr → Value → Option Addr → TS) (oi : Option Nat) (a : Addr) (cls : Value) (d : Option Addr) : TS := fun D σ H => match oi with
 | none => ts a cls d D σ H
 | some i => ts a cls d (offE D i a cls d) (σ.set i (some (.ref a))) H
def wG (K : PySem.W.Frag) (Wout : WX) (D : Ends) : List Hd → WX
 | [] => Wout
 | (c, oi, ts) :: r => fun cls d σ H => ∃ b, PySem.W.exmOne K cls c = some b ∧ (b = true → ∀ a, H a = none → inH ts oi a cls d D σ H) ∧ (b = false → wG K Wout D r cls d σ H)
inductive HdG (X : Cx) : List ExceptHandler → List Hd → Prop
 | nil : HdG X [] []
 | one {x : Str} {c : Value} {ts : Addr → Value → Option Addr → TS} {b₀ : Stmt} {suite : List Stmt} {np pos' : Pos} {hds : List ExceptHandler} {l : List Hd} (hc : Names X x c)
   (hsu : ∀ (a : Addr) (oe : Obj) (cls : Value) (d : Option Addr) (pn : List (Addr × Obj)), Zc cls d oe → (∃ vs, oe.data = .fields vs) → PSs (X.suite a ((a, oe) :: pn)) (b₀ :: suite) (ts a cls d)) (r : HdG X hds l) :
   HdG X (.ExceptHandler (some (.Name x np)) none (b₀ :: suite) pos' :: hds) ((c, none, ts) :: l)
 | as {x n : Str} {i : Nat} {c : Value} {ts : Addr → Value → Option Addr → TS} {b₀ : Stmt} {suite : List Stmt} {np pos' : Pos} {hds : List ExceptHandler} {l : List Hd} (hi : X.N[i]? = some n) (hln : X.env.kindOf n = some .local) (hc : Names X x c)
   (hsu : ∀ (a : Addr) (oe : Obj) (cls : Value) (d : Option Addr) (pn : List (Addr × Obj)), Zc cls d oe → (∃ vs, oe.data = .fields vs) → PSs (X.suite a ((a, oe) :: pn)) (b₀ :: suite) (ts a cls d)) (r : HdG X hds l) :
   HdG X (.ExceptHandler (some (.Name x np)) (some n) (b₀ :: suite) pos' :: hds) ((c, some i, ts) :: l)
/-- an exception that is held by the heap is one of the things that are known -/
theorem inv_add {X : Cx} {pins : List (Addr × Obj)} {σ : L2.St} {H : Hp} {s : Shared} {a C : Addr} {oe : Obj} {vs : Array Value} {d : Option Addr} (I : Inv X pins σ H s) (ha : s.heap.get? a = some oe) (hz : Zc (.ref C) d oe) (hd : oe.data = .fields vs) (hH : H a = none)
  (nL : a ≠ X.env.locals) (fr : ∀ o, X.s_0.heap.get? a = some o → a ∈ X.ex) (hp : ∀ p ∈ X.pn ++ pins, p.1 ≠ a) : Inv X pins σ (upd H a (exv a C d)) s := by
 obtain ⟨c1, c2⟩ := hz
 have ne : ∀ {b : Addr} {u : HO}, H b = some u → b ≠ a := fun e => ne_of_none e hH
 refine ⟨I.ok, I.os, I.bare, ⟨I.base.keep, I.base.slot, fun b o q n hx => ?_, I.base.there, fun b xs q => ?_, fun b u xs q => ?_, fun b ps q => ?_⟩, I.loc, I.cell, ?_, fun x c e => ?_, fun p hp' => ?_, fun b u e => ?_, I.len⟩
 ·by_cases hb : b = a
  ·subst hb
   exact absurd (fr o q) hx
  ·rw [upd_ne hb]
   exact I.base.free b o q n hx
 ·have h := I.base.tups b xs q
  rw [upd_ne (ne h)]
  exact h
 ·have h := I.base.frzs b u xs q
  rw [upd_ne (ne h)]
  exact h
 ·obtain ⟨more, h⟩ := I.base.tbls b ps q
  exact ⟨more, by rw [upd_ne (ne h)]; exact h⟩
 ·rw [upd_ne (Ne.symm nL)]
  exact I.free
 ·have hc : c ≠ a := fun z => by
   obtain ⟨v, o, ho, hdc⟩ := I.cell x c e
   rw [z, ha] at ho
   cases ho
   rw [hd] at hdc
   cases hdc
  rw [upd_ne hc]
  exact I.freeC x c e
 ·obtain ⟨q1, q2, q3⟩ := I.pin p hp'
  exact ⟨q1, by rw [upd_ne (hp p hp')]; exact q2, q3⟩
 ·by_cases hb : b = a
  ·subst hb
   rw [upd_same] at e
   cases e
   exact ⟨⟨oe, ha, c1, c2, vs, hd⟩, ⟨_, ha⟩, fun h1 h2 z k => by
    obtain ⟨o, q, t⟩ := z
    exact ⟨o, k _ q, t⟩⟩
  ·rw [upd_ne hb] at e
   exact (I.hok b u e).stay (fun c v _ q => q) (fun c q => by rw [upd_ne (ne q)]; exact q) fun c xs q => by rw [upd_ne (ne q)]; exact q
section
variable {X : Cx} {body : List Stmt} {h₀ : ExceptHandler} {hds : List ExceptHandler} {l : List Hd} {pos : Pos} {tb : WX → TS} {Wout : WX}
theorem ps_tryG (hs : X.stack = X.env :: X.outer) (hf : X.env.frame = some X.env.locals) (hN : X.N.Nodup) (tk : Takes X Wout)
  (hb : ∀ (W : WX) (pn : List (Addr × Obj)) (xe : Value → Shared → Prop), Takes (X.tr pn xe) W → PassesOwn (model X.prog X.w) X.A X.env xe → PSs (X.tr pn xe) body (tb W))
  (hh : HdG X (h₀ :: hds) l) : PS X (.Try body (h₀ :: hds) [] [] pos) (fun D σ H => tb (wG X.K Wout D l) D σ H) := by
 refine ⟨fun pins s σ H D I h => ?_⟩
 have ok := I.ok
 have hfr : X.A.frames = some (X.env :: X.outer) := by rw [ok.frames, hs]
 refine wpAny_Try_except ?_
 refine wpAny_mono ((hb (wG X.K Wout D l) (X.pn ++ pins) (fun e s₁ => wpAny (model X.prog X.w) X.A (noteFrame e X.env) (fun _ s₂ => wpAny (model X.prog X.w) X.A (setFlight e none) (fun _ s₃ =>
  wpAny (model X.prog X.w) X.A (handleBy e X.env (h₀ :: hds)) (SP X pins D) X.xe s₃) X.xe s₂) X.xe s₁) (fun u s' xx => ?_) PassesOwn.looking).run [] s σ H D (I.toTry _) h) (fun f s1 hsp => ?_) (fun e s1 he => he)
 ·obtain ⟨a, B, sI, pins', σ', H', cls, d, rfl, J', nb, up, sky, na, os, ag, w⟩ := xx
  have J : Inv X pins σ' H' sI := J'.ofTry ok
  have sky' : Sky B (X.env :: X.outer) a (Zc cls d) X.env.locals s'.heap := by rw [← hs]; exact sky
  show wpAny (model X.prog X.w) X.A (noteFrame (.ref a) X.env) _ _ _
  refine Sky.land Zc.steady hfr hf sky' fun h3 fl3 up3 => ?_
  have J3 : Inv X pins σ' H' { s' with heap := h3 } := J.landed nb fl3.1 (up.trans up3) os ag
  obtain ⟨oe3, vs3, he3, hz3, hd3⟩ := fl3.there
  have nfr : a ∉ frs (X.env :: X.outer) := fun hm => by
   obtain ⟨_, o', e', hnf⟩ := fl3.2.2.1.mem hm
   rw [he3] at e'; cases e'
   exact hnf _ hd3
  have nL : a ≠ X.env.locals := fun z => nfr (List.mem_filterMap.mpr ⟨X.env, List.mem_cons_self, by rw [hf, z]⟩)
  have nF : a ∉ X.fs := fun hm => by
   obtain ⟨e, he, q⟩ := List.mem_filterMap.mp hm
   exact nfr (List.mem_filterMap.mpr ⟨e, List.mem_cons_of_mem _ he, q⟩)
  have S3 := J3.suite he3 hd3 na nL nF
  have noI : ∀ o, sI.heap.get? a = some o → False := fun o e => by
   have h1 := nb a o e (by rw [hs]; exact nfr)
   rw [fl3.2.1] at h1
   cases h1
  have frX : ∀ o, X.s_0.heap.get? a = some o → a ∈ X.ex := fun o e => by
   refine Classical.byContradiction fun hx => ?_
   obtain ⟨o', e'⟩ := J.base.there a o e hx
   exact noI o' e'
  have npX : ∀ p ∈ X.pn ++ pins, p.1 ≠ a := fun p hp z => by
   have h1 := (J.pin p hp).1
   rw [z] at h1
   exact noI _ h1
  have test : ∀ {x : Str} {c : Value} {np : Pos} {Q : Value → Shared → Prop} {E : Value → Shared → Prop}, Names X x c → Q c { s' with heap := h3 } → wpAny (model X.prog X.w) (X.A.mark (some (.ref a))) (eval (.Name x np) X.env) Q E { s' with heap := h3 } := fun {x c np Q E} hc q => by
   obtain ⟨hg, hdbg, hm | ⟨hm, hv, hnn⟩⟩ := hc
   ·exact ld_glob (X := X.suite a ((a, oe3) :: (X.pn ++ pins))) S3 hg hm q hdbg
   ·exact ld_blt (X := X.suite a ((a, oe3) :: (X.pn ++ pins))) S3 hg hm hv q hnn hdbg
  have LT : PySem.W.Looks (model X.prog X.w) h3 (typeOf (.ref a)) cls := fun A Q E s k q => wpAny_typeOf_ref (k _ _ he3) (by rw [hz3.1]; exact q)
  have go : ∀ {hds' : List ExceptHandler} {l' : List Hd}, HdG X hds' l' → wG X.K Wout D l' cls d σ' H' →
    wpAny (model X.prog X.w) X.A (handleBy (.ref a) X.env hds') (SP X pins D) X.xe { s' with heap := h3 } := by
   intro hds' l' hk
   induction hk with
   | nil =>
    intro w
    refine wpAny_handleBy_nil ?_
    obtain ⟨k1, k2, k3, oe, vs, T, oT, ts', he, hz, hd, h1, hr⟩ := id fl3
    unfold PySem.passOn
    refine wpAny_bind (wpAny_field he hd h1 ?_)
    rw [if_neg (show ¬ ((Value.ref T == Value.none) = true) from by simp)]
    have fin : wpAny (model X.prog X.w) X.A (setFlight (.ref a) X.env.frame) (fun _ s4 => wpAny (model X.prog X.w) X.A (throw (.ref a) : Sem Flow) (SP X pins D) X.xe s4) X.xe { s' with heap := h3 } := by
     rw [hf]
     refine HandSPX.setFlight_upZ fl3 fun h4 hh4 up4 => wpAny_throw (tk _ _ ?_)
     exact ⟨a, B, sI, pins, σ', H', cls, d, rfl, J, nb, (up.trans up3).trans up4, .inr (.inr (by rw [hs]; exact hh4)), na, os, ag, w⟩
    first
     | exact wpAny_bind (wpAny_pure (wpAny_bind fin))
     | exact wpAny_bind fin
   | @one x c ts b₀ suite np pos' hds2 l2 hc hsu r ih =>
    intro w
    obtain ⟨b, hb1, hyes, hno⟩ := w
    refine wpAny_handleBy_cons (codeAny_handlers_test ?_) (by intro q; cases q)
    refine test hc ((PySem.W.exm_one (M := model X.prog X.w) (J3.kIn) LT hb1).here ?_)
    cases b with
    | true =>
     refine codeAny_handlers_suite ?_
     refine HandSPX.lands_againZ fl3 fun h4 fl4 up4 => ?_
     have J4 : Inv X pins σ' H' { s' with heap := h4 } := J.landed nb fl4.1 ((up.trans up3).trans up4) os ag
     obtain ⟨oe4, vs4, he4, hz4, hd4⟩ := fl4.there
     have S4 := J4.suite he4 hd4 na nL nF
     refine wpAny_mono ((hsu a oe4 cls d (X.pn ++ pins) hz4 ⟨_, hd4⟩).run [] _ _ H' _ S4 (hyes rfl a na)) (fun f s6 hsp => ?_) (fun _ _ z => False.elim z)
     cases f with
     | next =>
      obtain ⟨σ6, H6, S6, q6⟩ := hsp
      exact ⟨_, _, S6.unsuite ok, q6⟩
     | brk =>
      obtain ⟨σ6, H6, S6, q6⟩ := hsp
      exact ⟨_, _, S6.unsuite ok, q6⟩
     | cont =>
      obtain ⟨σ6, H6, S6, q6⟩ := hsp
      exact ⟨_, _, S6.unsuite ok, q6⟩
     | ret u =>
      obtain ⟨v6, σ6, H6, S6, r6, q6⟩ := hsp
      exact ⟨_, _, _, S6.unsuite ok, r6, q6⟩
    | false =>
     show wpAny _ X.A (handleBy (.ref a) X.env hds2) _ _ _
     exact ih (hno rfl)
   | @as x n i c ts b₀ suite np pos' hds2 l2 hi hln hc hsu r ih =>
    intro w
    obtain ⟨b, hb1, hyes, hno⟩ := w
    refine wpAny_handleBy_cons (codeAny_handlers_test ?_) (by intro q; cases q)
    refine test hc ((PySem.W.exm_one (M := model X.prog X.w) (J3.kIn) LT hb1).here ?_)
    cases b with
    | true =>
     refine codeAny_handlers_suite_as ?_
     refine HandSPX.lands_againZ fl3 fun h4 fl4 up4 => ?_
     have J4 : Inv X pins σ' H' { s' with heap := h4 } := J.landed nb fl4.1 ((up.trans up3).trans up4) os ag
     obtain ⟨oe4, vs4, he4, hz4, hd4⟩ := fl4.there
     have S4 := J4.suite he4 hd4 na nL nF
     refine store_ok (X := X.suite a ((a, oe4) :: (X.pn ++ pins))) (v := .ref a) S4 hN hi (.inl hln) rfl (fun s5 S5 => ?_) (.inr hln)
     refine wpAny_mono ((hsu a oe4 cls d (X.pn ++ pins) hz4 ⟨_, hd4⟩).run [] s5 _ H' _ S5 (hyes rfl a na)) (fun f s6 hsp => ?_) (fun _ _ z => False.elim z)
     have end_ : ∀ {σ6 : L2.St} {H6 : Hp} {Q : Shared → Prop}, Inv (X.suite a ((a, oe4) :: (X.pn ++ pins))) [] σ6 H6 s6 → (∀ s7, Inv X pins (σ6.set i none) H6 s7 → Q s7) →
       wpAny (model X.prog X.w) X.A (do bindName X.env n .none; unbindBehindTheSuite X.env n pos') (fun _ s7 => Q s7) X.xe s6 := fun {σ6 H6 Q} S6 hq => gone_ok (S6.unsuite ok) hN hi hln hq
     cases f with
     | next =>
      obtain ⟨σ6, H6, S6, q6⟩ := hsp
      rcases q6 with q6 | ⟨C, ec, q6⟩
      ·exact end_ S6 fun s7 J7 => ⟨_, _, J7, q6⟩
      ·obtain ⟨pa, pb, _⟩ := S6.pin (a, oe4) (List.mem_append_left _ List.mem_cons_self)
       exact gone_ok (inv_add (S6.unsuite ok) pa (by rw [← ec]; exact hz4) hd4 pb nL frX npX) hN hi hln fun s7 J7 => ⟨_, _, J7, q6⟩
     | brk =>
      obtain ⟨σ6, H6, S6, q6⟩ := hsp
      exact end_ S6 fun s7 J7 => ⟨_, _, J7, q6⟩
     | cont =>
      obtain ⟨σ6, H6, S6, q6⟩ := hsp
      exact end_ S6 fun s7 J7 => ⟨_, _, J7, q6⟩
     | ret u =>
      obtain ⟨v6, σ6, H6, S6, r6, q6⟩ := hsp
      exact end_ S6 fun s7 J7 => ⟨_, _, _, J7, r6, q6⟩
    | false =>
     show wpAny _ X.A (handleBy (.ref a) X.env hds2) _ _ _
     exact ih (hno rfl)
  exact go hh w
 ·cases f with
  | next =>
   obtain ⟨σ', H', J', q⟩ := hsp
   exact wpAny_execs_nil ⟨σ', H', J'.ofTry ok, q⟩
  | brk =>
   obtain ⟨σ', H', J', q⟩ := hsp
   exact ⟨σ', H', J'.ofTry ok, q⟩
  | cont =>
   obtain ⟨σ', H', J', q⟩ := hsp
   exact ⟨σ', H', J'.ofTry ok, q⟩
  | ret u =>
   obtain ⟨v, σ', H', J', r, q⟩ := hsp
   exact ⟨v, σ', H', J'.ofTry ok, r, q⟩
end
end DL
/-! DL42: the suite of an except clause: what looks at the exception in hand. -/
namespace DL
open PySem L2 PySem.Spec PyProof.Rows PySem.HandSPX
theorem excIs_go {K : PySem.W.Frag} {W W' : Wd} {H H' : Hp} {fs : List (Str × D)} {d : Option Addr} (g : Go W H W' H') (x : ExcIs K W H fs d) : ExcIs K W' H' fs d := by
 rcases x with x | ⟨a, ns, vs, ds, e1, e2, e3, e4, e5⟩
 ·exact .inl x
 ·exact .inr ⟨a, ns, vs, ds, e1, g.le.s _ _ e2, e3, e4, e5.mono g.le⟩
/-- the exception in hand: slot i holds it, its fields are fs -/
def XIn (K : PySem.W.Frag) (i : Nat) (a : Addr) (d : Option Addr) (fs : List (Str × D)) (W : Wd) (σ : L2.St) (H : Hp) : Prop := σ[i]? = some (some (.ref a)) ∧ ExcIs K W H fs d
theorem XIn.go {K : PySem.W.Frag} {i : Nat} {a : Addr} {d : Option Addr} {fs : List (Str × D)} {W W' : Wd} {σ : L2.St} {H H' : Hp} (g : Go W H W' H') (x : XIn K i a d fs W σ H) : XIn K i a d fs W' σ H' := ⟨x.1, excIs_go g x.2⟩
abbrev PX := Wd → L2.St → Hp → Prop
def rSp (K : PySem.W.Frag) (P : PX) (g : FS) : TS := fun Z σ H => ∃ W ρ μ, Ok K W H μ ∧ Envs K W σ ρ ∧ P W σ H ∧ postS K E0 W H (g ρ μ) Z
abbrev DSp (X : Cx) (P : PX) (st : List Stmt) (g : FS) : Prop := PSs X st (rSp X.K P g)
end DL
/-! DL44: try over data. -/
namespace DL
open PySem L2 PySem.Spec PyProof.Rows PySem.HandSPX
/-- a clause: does it catch the class c; the slot that it binds; its suite -/
structure Cl where
 m : Nat → Option Bool
 slot : Option Nat
 h : Nat → List (Str × D) → FS
/-- no exception leaves; slot i is unbound -/
def offO (i : Nat) : O → O
 | .nx ρ μ => .nx (ρ.set i none) μ
 | .bk ρ μ => .bk (ρ.set i none) μ
 | .ct ρ μ => .ct (ρ.set i none) μ
 | .rt d μ => .rt d μ
 | _ => .bad
def noxO : O → O
 | .ex _ _ _ _ => .bad
 | o => o
def hgo : List Cl → En → Nat → List (Str × D) → Mu → O
 | [], ρ, c, fs, μ => .ex ρ c fs μ
 | l :: r, ρ, c, fs, μ => match l.m c with
  | none => .bad
  | some false => hgo r ρ c fs μ
  | some true => match l.slot with
   | none => noxO (l.h c fs ρ μ)
   | some i => if i < ρ.length then offO i (l.h c fs (ρ.set i none) μ) else .bad
def gtry (g : FS) (l : List Cl) : FS := fun ρ μ => match g ρ μ with
 | .ex ρ1 c fs μ1 => hgo l ρ1 c fs μ1
 | o => o
def PE0 (K : PySem.W.Frag) (d : Option Addr) (fs : List (Str × D)) : PX := fun W _ H => ExcIs K W H fs d
def tsOf (K : PySem.W.Frag) (l : Cl) (P : Addr → Option Addr → List (Str × D) → PX) : Addr → Value → Option Addr → TS := fun a cls d D σ H => ∃ c fs, cls = .ref (cl K c) ∧ l.m c = some true ∧ rSp K (P a d fs) (l.h c fs) D σ H
/-- x = e, e the exception in hand -/
def gkeep (j : Nat) (c : Nat) (fs : List (Str × D)) : FS := fun ρ μ => .nx (ρ.set j (some (.exc c fs))) μ
@[simp] theorem ap_keep (j c : Nat) (fs : List (Str × D)) (ρ : En) (μ : Mu) : gkeep j c fs ρ μ = .nx (ρ.set j (some (.exc c fs))) μ := of_eq_true (eq_self _)
def tsK (K : PySem.W.Frag) (m : Nat → Option Bool) (i j : Nat) : Addr → Value → Option Addr → TS := fun a cls d D σ H => ∃ c, cls = .ref (cl K c) ∧ m c = some true ∧ σ[i]? = some (some (.ref a)) ∧ D.nx (σ.set j (some (.ref a))) H
/-- the clauses, with their suites -/
inductive HdD (X : Cx) : List ExceptHandler → List Cl → List Hd → Prop
 | nil : HdD X [] [] []
 | one {x : Str} {cv : Value} {m : Nat → Option Bool} {h : Nat → List (Str × D) → FS} {b₀ : Stmt} {suite : List Stmt} {np pos' : Pos} {hds : List ExceptHandler} {l : List Cl} {q : List Hd} (hc : Names X x cv) (hm : ∀ c b, m c = some b → PySem.W.exmOne X.K (.ref (cl X.K c)) cv = some b)
   (hsu : ∀ c fs, m c = some true → ∀ (a : Addr) (oe : Obj) (cls : Value) (d : Option Addr) (pn : List (Addr × Obj)), cls = .ref (cl X.K c) → Zc cls d oe → (∃ vs, oe.data = .fields vs) → DSp (X.suite a ((a, oe) :: pn)) (PE0 X.K d fs) (b₀ :: suite) (h c fs)) (r : HdD X hds l q) :
   HdD X (.ExceptHandler (some (.Name x np)) none (b₀ :: suite) pos' :: hds) (⟨m, none, h⟩ :: l) ((cv, none, tsOf X.K ⟨m, none, h⟩ (fun _ d fs => PE0 X.K d fs)) :: q)
 | as {x n : Str} (i : Nat) {cv : Value} {m : Nat → Option Bool} {h : Nat → List (Str × D) → FS} {b₀ : Stmt} {suite : List Stmt} {np pos' : Pos} {hds : List ExceptHandler} {l : List Cl} {q : List Hd} (hi : X.N[i]? = some n) (hln : X.env.kindOf n = some .local) (hc : Names X x cv) (hm : ∀ c b, m c = some b → PySem.W.exmOne X.K (.ref (cl X.K c)) cv = some b)
   (hsu : ∀ c fs, m c = some true → ∀ (a : Addr) (oe : Obj) (cls : Value) (d : Option Addr) (pn : List (Addr × Obj)), cls = .ref (cl X.K c) → Zc cls d oe → (∃ vs, oe.data = .fields vs) → DSp (X.suite a ((a, oe) :: pn)) (XIn X.K i a d fs) (b₀ :: suite) (h c fs)) (r : HdD X hds l q) :
   HdD X (.ExceptHandler (some (.Name x np)) (some n) (b₀ :: suite) pos' :: hds) (⟨m, some i, h⟩ :: l) ((cv, some i, tsOf X.K ⟨m, some i, h⟩ (fun a d fs => XIn X.K i a d fs)) :: q)
 | keep {x n v : Str} (i j : Nat) {cv : Value} {m : Nat → Option Bool} {np pos' p1 p2 p3 : Pos} {hds : List ExceptHandler} {l : List Cl} {q : List Hd} (hi : X.N[i]? = some n) (hln : X.env.kindOf n = some .local) (hc : Names X x cv) (hm : ∀ c b, m c = some b → PySem.W.exmOne X.K (.ref (cl X.K c)) cv = some b)
   (hsu : ∀ (a : Addr) (oe : Obj) (cls : Value) (d : Option Addr) (pn : List (Addr × Obj)), PSs (X.suite a ((a, oe) :: pn)) [.Assign [.Name v p1] (.Name n p2) p3] (tsK X.K m i j a cls d)) (r : HdD X hds l q) :
   HdD X (.ExceptHandler (some (.Name x np)) (some n) [.Assign [.Name v p1] (.Name n p2) p3] pos' :: hds) (⟨m, some i, gkeep j⟩ :: l) ((cv, some i, tsK X.K m i j) :: q)
section
variable {X : Cx} {E : WX}
theorem pss_ex {st : List Stmt} {p : Nat → List (Str × D) → Prop} {t : Nat → List (Str × D) → TS} (h : ∀ c fs, p c fs → PSs X st (t c fs)) : PSs X st (fun D σ H => ∃ c fs, p c fs ∧ t c fs D σ H) := ⟨fun pins s σ H D I ⟨c, fs, hp, q⟩ => (h c fs hp).run pins s σ H D I q⟩
theorem HdD.hdG {hds : List ExceptHandler} {l : List Cl} {q : List Hd} (h : HdD X hds l q) : HdG X hds q := by
 induction h with
 | nil => exact .nil
 | one hc hm hsu r ih =>
  exact .one hc (fun a oe cls d pn hz hf => pss_imp (pss_ex (p := fun c fs => cls = .ref (cl X.K c) ∧ _ = some true) fun c fs hp => hsu c fs hp.2 a oe cls d pn hp.1 hz hf) fun D σ H ⟨c, fs, e1, e2, q⟩ => ⟨c, fs, ⟨e1, e2⟩, q⟩) ih
 | as i hi hln hc hm hsu r ih =>
  exact .as hi hln hc (fun a oe cls d pn hz hf => pss_imp (pss_ex (p := fun c fs => cls = .ref (cl X.K c) ∧ _ = some true) fun c fs hp => hsu c fs hp.2 a oe cls d pn hp.1 hz hf) fun D σ H ⟨c, fs, e1, e2, q⟩ => ⟨c, fs, ⟨e1, e2⟩, q⟩) ih
 | keep i j hi hln hc hm hsu r ih => exact .as hi hln hc (fun a oe cls d pn hz hf => hsu a oe cls d pn) ih
theorem noxO_post {K : PySem.W.Frag} {W : Wd} {H : Hp} {o : O} {Z : Ends} (p : postS K E W H (noxO o) Z) : postS K E0 W H o Z := by
 cases o with
 | ex ρ c fs μ => exact p.elim
 | _ => exact p
theorem offO_post {K : PySem.W.Frag} {W : Wd} {H : Hp} {o : O} {Z : Ends} {i : Nat} {a : Addr} {cls : Value} {d : Option Addr} (p : postS K E W H (offO i o) Z) : postS K E0 W H o (offE Z i a cls d) := by
 cases o with
 | nx ρ μ => exact fun W' σ' H' g o n => .inl (p W' _ H' g o (n.unset _ i))
 | bk ρ μ => exact fun W' σ' H' g o n => p W' _ H' g o (n.unset _ i)
 | ct ρ μ => exact fun W' σ' H' g o n => p W' _ H' g o (n.unset _ i)
 | rt d μ => exact p
 | ex ρ c fs μ => exact p.elim
 | bad => exact p
theorem wG_of {hds : List ExceptHandler} {l : List Cl} {q : List Hd} (h : HdD X hds l q) {W : Wd} {H : Hp} {σ : L2.St} {ρ : En} {μ : Mu} {c : Nat} {fs : List (Str × D)} {d : Option Addr} {Z : Ends} (ok : Ok X.K W H μ) (en : Envs X.K W σ ρ) (ex : ExcIs X.K W H fs d) :
  postS X.K E W H (hgo l ρ c fs μ) Z → wG X.K E Z q (.ref (cl X.K c)) d σ H := by
 induction h with
 | nil => exact fun p => p W σ H d (Go.refl _ _) ok en ex
 | @one x cv m h b₀ suite np pos' hds l q hc hm hsu r ih =>
  intro p
  unfold hgo at p
  dsimp only at p
  cases e : m c with
  | none => rw [e] at p; exact p.elim
  | some b =>
   rw [e] at p
   refine ⟨b, hm c b e, fun hb a ha => ?_, fun hb => ?_⟩
   ·subst hb
    exact ⟨c, fs, rfl, e, W, ρ, μ, ok, en, ex, noxO_post p⟩
   ·subst hb
    exact ih p
 | @as x n i cv m h b₀ suite np pos' hds l q hi hln hc hm hsu r ih =>
  intro p
  unfold hgo at p
  dsimp only at p
  cases e : m c with
  | none => rw [e] at p; exact p.elim
  | some b =>
   rw [e] at p
   refine ⟨b, hm c b e, fun hb a ha => ?_, fun hb => ?_⟩
   ·subst hb
    (try dsimp only at p)
    by_cases hl : i < ρ.length
    ·rw [if_pos hl] at p
     refine ⟨c, fs, rfl, e, W, ρ.set i none, μ, ok, en.unset _ i, ⟨?_, ex⟩, offO_post p⟩
     exact List.getElem?_set_self (by rw [← en.len]; exact hl)
    ·rw [if_neg hl] at p
     exact p.elim
   ·subst hb
    exact ih p
 | @keep x n v i j cv m np pos' p1 p2 p3 hds l q hi hln hc hm hsu r ih =>
  intro p
  unfold hgo at p
  dsimp only at p
  cases e : m c with
  | none => rw [e] at p; exact p.elim
  | some b =>
   rw [e] at p
   refine ⟨b, hm c b e, fun hb a ha => ?_, fun hb => ?_⟩
   ·subst hb
    (try dsimp only at p)
    by_cases hl : i < ρ.length
    ·rw [if_pos hl] at p
     refine ⟨c, rfl, e, List.getElem?_set_self (by rw [← en.len]; exact hl), .inr ⟨cl X.K c, rfl, ?_⟩⟩
     have g2 := Go.new (o := exv a (cl X.K c) d) ok ha
     have o2 := Ok.new (o := exv a (cl X.K c) d) ok ha
     have rp : Rep X.K (W.new a (exv a (cl X.K c) d)) (.ref a) (.exc c fs) := by
      rcases ex with ⟨e1, e2⟩ | ⟨dx, ns, vs, ds, e1, e2, e3, e4, e5⟩
      ·subst e1 e2
       exact .exc (ns := []) (vs := []) (ds := []) (.inl ⟨upd_same, rfl, rfl⟩) .nil
      ·subst e1 e3
       exact .exc (.inr ⟨dx, upd_same, g2.le.s _ _ e2, e4⟩) (e5.mono g2.le)
     exact p _ _ _ g2 o2 ((((en.mono g2.le).unset _ i).set rp j).unset _ i)
    ·rw [if_neg hl] at p
     exact p.elim
   ·subst hb
    exact ih p
theorem ds_try {k : Nat} {body : List Stmt} {h₀ : ExceptHandler} {hds : List ExceptHandler} {l : List Cl} {q : List Hd} {g : FS} {pos : Pos} (hs : X.stack = X.env :: X.outer) (hf : X.env.frame = some X.env.locals) (hN : X.N.Nodup) (C : Cal X E k)
  (hb : ∀ (W : WX) (pn : List (Addr × Obj)) (xe : Value → Shared → Prop), Cal (X.tr pn xe) W k → PassesOwn (model X.prog X.w) X.A X.env xe → DSs (X.tr pn xe) W body g)
  (hh : HdD X (h₀ :: hds) l q) : DS X E (.Try body (h₀ :: hds) [] [] pos) (gtry g l) := by
 refine ps_imp (ps_tryG (tb := fun W => rS X.K W g) hs hf hN C.take (fun W pn xe tk po => hb W pn xe ⟨C.room, C.guards, tk⟩ po) hh.hdG) fun Z σ H ⟨W, ρ, μ, ok, en, p⟩ => ?_
 refine ⟨W, ρ, μ, ok, en, ?_⟩
 unfold gtry at p
 revert p
 cases g ρ μ with
 | ex ρ1 c fs μ1 => exact fun p W' σ' H' d g o n x => wG_of hh o n x (postS.mono g p)
 | nx _ _ => exact fun p => p
 | bk _ _ => exact fun p => p
 | ct _ _ => exact fun p => p
 | rt _ _ => exact fun p => p
 | bad => exact fun p => p
end
section
variable {X : Cx} {P : PX} {a b : Expr} {rest : List Expr} {f g : FE} {pos : Pos}
/-- a suite that does not look at the exception -/
theorem dsp_lift {st : List Stmt} {g : FS} (h : DSs X E0 st g) : DSp X P st g := pss_imp h fun Z σ H ⟨W, ρ, μ, ok, en, hP, p⟩ => ⟨W, ρ, μ, ok, en, p⟩
end
end DL
/-! DL45: the facts about own exception classes as Bools, for the head. -/
namespace DL
open PySem L2 PySem.Spec PyProof.Rows PySem.HandSPX
theorem Bk.bas : (k : Bk) → Bas k.new k.init k.tail
 | .ve => bas_VE
 | .ke => bas_KE
 | .rt => bas_RT
theorem oexB_ok {K : PySem.W.Frag} {c : Nat} {k : Bk} (h : oexB K c k = true) : OexG K (cl K c) k.init := by
 unfold oexB at h
 simp only [Bool.and_eq_true, decide_eq_true_eq] at h
 obtain ⟨h1, h2, h3, h4, h5, h6, h7⟩ := h
 exact ⟨⟨_, _, k.bas, h1, h2⟩, h3, h4, h5, h6, h7⟩
theorem oiniB_ok {K : PySem.W.Frag} {c : Nat} (h : oiniB K c = true) : PySem.W.findIn K (.ref (cl K c)) "__init__" = some (some (.ref (He.fAd K (nmC c, some "__init__")))) ∧ PySem.W.typeIn K (.ref (He.fAd K (nmC c, some "__init__"))) = some (.type "function") := by
 unfold oiniB at h
 simp only [Bool.and_eq_true, decide_eq_true_eq] at h
 exact h
theorem isVal_ok {r : Option PySem.W.CFound} {i : String} (h : isVal r i = true) : r = some (.val (.builtin i)) := by
 unfold isVal at h
 split at h
 ·rw [eq_of_beq h]
 ·cases h
theorem gmB_ok {X : Cx} {b : Nat} {k : Bk} (h : gmB X.K b k.init = true) : GMi X (.ref (cl X.K b)) k.init := by
 unfold gmB at h
 simp only [Bool.and_eq_true, decide_eq_true_eq] at h
 exact gm_own h.1 h.2.1 (isVal_ok h.2.2) (by cases k <;> decide +kernel)
theorem excB_ok {K : PySem.W.Frag} {c : Nat} (h : excB K c = true) : ExcC K (cl K c) ∧ XfC K (cl K c) := by
 unfold excB at h
 simp only [Bool.and_eq_true, decide_eq_true_eq] at h
 obtain ⟨h1, h2, h3, h4, h5, h6, h7, h8⟩ := h
 exact ⟨⟨h1, h2, h3, h4, h5, h6, h7, h8⟩, ⟨h1, h2, h3, h4⟩⟩
/-- which classes a clause catches -/
def mL (yes no : List Nat) : Nat → Option Bool := fun c => if c ∈ yes then some true else if c ∈ no then some false else none
theorem exmB_ok {K : PySem.W.Frag} {cv : Value} {yes no : List Nat} (h : exmB K cv yes no = true) : ∀ c b, mL yes no c = some b → PySem.W.exmOne K (.ref (cl K c)) cv = some b := by
 unfold exmB at h
 simp only [Bool.and_eq_true, decide_eq_true_eq, List.all_eq_true] at h
 obtain ⟨h1, h2⟩ := h
 intro c b e
 unfold mL at e
 split at e
 ·rename_i m
  cases e
  exact h1 c m
 ·split at e
  ·rename_i m
   cases e
   exact h2 c m
  ·cases e
end DL
/-! DL46: as He.hookX, the fragment reaching the statics too. -/
namespace DL
open PySem L2 He
theorem obsY_eq {n : Nat} {fa : List Fa} {fn : List DefD} {ex : PySem.W.Frag → Bool} {g : Addr → Option Obj} {s : Shared} (h : ∀ a, g a = s.heap.get? a) : obsY n fa fn ex g = (hookY n fa fn ex).obs s := by
 have e : g = s.heap.get? := funext h
 rw [e]
 rfl
theorem tabHead_of {fa : List Fa} {fn : List DefD} {ex : PySem.W.Frag → Bool} {w : World} {h : Heap} {K : PySem.W.Frag} (c : SaysX fa fn [] lamTf ex w h K) : TabHead K h :=
 ⟨fun p hp => c.hd p.1 (List.mem_map.mpr ⟨p, hp, rfl⟩), fun p hp => c.out p.1 (List.mem_map.mpr ⟨p, hp, rfl⟩), fun p hp => c.empty p.1 (List.mem_map.mpr ⟨p, hp, rfl⟩)⟩
end DL
/-! DL47: == and != of data with cells in it. -/
namespace DL
open PySem L2 PySem.Spec PyProof.Rows
def dctEq (e : D → D → Option Bool) (ls : List Key) (ys : List D) : List Key → List D → Option Bool
 | k :: ks, x :: xs => match dctEq e ls ys ks xs with
  | some b => (match lookK ls ys k with
   | none => some false
   | some y => match e x y with
    | some a => some (a && b)
    | none => none)
  | none => none
 | _, _ => some true
/-- == of data, cells looked into; of less than that depth -/
def eqM : Nat → Mu → D → D → Option Bool
 | 0, _, _, _ => none
 | n + 1, μ, x, y => match x, y with
  | .hdl l, .hdl m => if l = m then some true else (match μ[l]?, μ[m]? with
   | some (.dct ks xs), some (.dct ls ys) => if ks.length = xs.length ∧ ls.length = ys.length then (match dctEq (eqM n μ) ls ys ks xs with
     | some b => some (decide (ks.length = ls.length) && b)
     | none => none) else none
   | some (.lst xs), some (.lst ys) => eqL (eqM n μ) xs ys
   | _, _ => none)
  | x, y => match x.kd, y.kd with
   | .flat u, .flat v => some (eqV u v)
   | .tup xs, .tup ys => eqL (eqM n μ) xs ys
   | .lst xs, .lst ys => eqL (eqM n μ) xs ys
   | .none, _ => none
   | _, .none => none
   | _, _ => some false
def kdM (n : Nat) (μ : Mu) (x y : D) : Option Bool := match x.kd, y.kd with
 | .flat u, .flat v => some (eqV u v)
 | .tup xs, .tup ys => eqL (eqM n μ) xs ys
 | .lst xs, .lst ys => eqL (eqM n μ) xs ys
 | .none, _ => none
 | _, .none => none
 | _, _ => some false
def hdM (n : Nat) (μ : Mu) (l m : Nat) : Option Bool := match μ[l]?, μ[m]? with
 | some (.dct ks xs), some (.dct ls ys) => if ks.length = xs.length ∧ ls.length = ys.length then (match dctEq (eqM n μ) ls ys ks xs with
   | some b => some (decide (ks.length = ls.length) && b)
   | none => none) else none
 | some (.lst xs), some (.lst ys) => eqL (eqM n μ) xs ys
 | _, _ => none
theorem eqM_cases {n : Nat} {μ : Mu} {x y : D} {b : Bool} (h : eqM (n + 1) μ x y = some b) : (∃ l, x = .hdl l ∧ y = .hdl l ∧ b = true) ∨ (∃ l m, x = .hdl l ∧ y = .hdl m ∧ l ≠ m ∧ hdM n μ l m = some b) ∨ kdM n μ x y = some b := by
 unfold eqM at h
 split at h
 ·rename_i l m
  split at h
  ·rename_i e
   subst e
   cases h
   exact .inl ⟨l, rfl, rfl, rfl⟩
  ·rename_i e
   exact .inr (.inl ⟨l, m, rfl, rfl, e, h⟩)
 ·exact .inr (.inr h)
section
variable {X : Cx} {pins : List (Addr × Obj)} {σ : L2.St} {H : Hp} {s : Shared} {W : Wd} {μ : Mu}
theorem eqM_same (I : Inv X pins σ H s) (ok : Ok X.K W H μ) : ∀ (n : Nat) (v : V) (d e : D) (b : Bool), Rep X.K W v d → Rep X.K W v e → eqM n μ d e = some b → b = true
 | 0, _, _, _, _, _, _, h => by simp [eqM] at h
 | n + 1, v, d, e, b, r1, r2, h => by
  rcases eqM_cases h with ⟨l, _, _, hb⟩ | ⟨l, m, rfl, rfl, hne, h⟩ | h
  ·exact hb
  ·cases r1 with
   | hdl h1 => cases r2 with
    | hdl h2 => exact absurd rfl (ok.io_ne h2 h1 hne)
  ·unfold kdM at h
   cases k1 : d.kd with
   | none => rw [k1] at h; cases h
   | flat u1 =>
    obtain ⟨rfl, f1⟩ := kd_flat r1 k1
    cases k2 : e.kd with
    | none => rw [k1, k2] at h; cases h
    | flat u2 =>
     obtain ⟨rfl, _⟩ := kd_flat r2 k2
     rw [k1, k2] at h
     cases h
     exact eqV_refl f1
    | tup ys =>
     obtain ⟨a, vs, rfl, _⟩ := kd_tup r2 k2
     simp [flatV] at f1
    | lst ys =>
     obtain ⟨a, vs, rfl, _⟩ := kd_lst r2 k2
     simp [flatV] at f1
   | tup xs =>
    obtain ⟨a, vs, rfl, h1, q1⟩ := kd_tup r1 k1
    cases k2 : e.kd with
    | none => rw [k1, k2] at h; cases h
    | flat u2 =>
     obtain ⟨rfl, f⟩ := kd_flat r2 k2
     simp [flatV] at f
    | tup ys =>
     obtain ⟨a', us, e', h2, q2⟩ := kd_tup r2 k2
     cases e'
     have ev := I.tuple_inj (same_t ok.sub h1) (same_t ok.sub h2)
     subst ev
     rw [k1, k2] at h
     exact eqL_same (fun v x y c a b z => eqM_same I ok n v x y c a b z) q1 q2 h
    | lst ys =>
     obtain ⟨a', us, e', h2, q2⟩ := kd_lst r2 k2
     cases e'
     obtain ⟨its, _, ⟨o, e1, c1, _⟩, _⟩ := I.tuple (same_t ok.sub h1)
     obtain ⟨its', _, ⟨o', n', e2, c2, _⟩, _⟩ := I.list (same_lq ok.sub h2).sq
     rw [e1] at e2
     cases e2
     rw [c1] at c2
     exact absurd c2 (by decide)
   | lst xs =>
    obtain ⟨a, vs, rfl, h1, q1⟩ := kd_lst r1 k1
    cases k2 : e.kd with
    | none => rw [k1, k2] at h; cases h
    | flat u2 =>
     obtain ⟨rfl, f⟩ := kd_flat r2 k2
     simp [flatV] at f
    | lst ys =>
     obtain ⟨a', us, e', h2, q2⟩ := kd_lst r2 k2
     cases e'
     have ev := I.list_inj (same_lq ok.sub h1).sq (same_lq ok.sub h2).sq
     subst ev
     rw [k1, k2] at h
     exact eqL_same (fun v x y c a b z => eqM_same I ok n v x y c a b z) q1 q2 h
    | tup ys =>
     obtain ⟨a', us, e', h2, q2⟩ := kd_tup r2 k2
     cases e'
     obtain ⟨its, _, ⟨o, e1, c1, _⟩, _⟩ := I.tuple (same_t ok.sub h2)
     obtain ⟨its', _, ⟨o', n', e2, c2, _⟩, _⟩ := I.list (same_lq ok.sub h1).sq
     rw [e1] at e2
     cases e2
     rw [c1] at c2
     exact absurd c2 (by decide)
def RcIn (prog : Program) (w : World) (op : CmpOp) (A : Around) (s : Shared) (y x : Value) (b : Bool) : Prop :=
 ∀ (E : Value → Shared → Prop) (Q : Value → Shared → Prop), Q (.bool b) s → wpAny (model prog w) A (richCompare op y x) Q E s
open PySem.SeqAt in
/-- the items of two lists, two tuples, as they lie there -/
theorem items_eq {A : Around} {P : Program} {w : World} {e : D → D → Option Bool} {xs ys : List D} {b : Bool} {vs us : List V} {its its' : List Value} {K : PySem.W.Frag} (q1 : Reps K W vs xs) (q2 : Reps K W us ys) (v1 : Vals vs its) (v2 : Vals us its') (h : eqL e xs ys = some b)
  (ih : ∀ x y c u v p q, Rep K W u x → Rep K W v y → RelV u p → RelV v q → e x y = some c → EqIn P w A s p q c) : ∀ j (h1 : j < its.toArray.size) (h2 : j < its'.toArray.size), EqIn P w A s its.toArray[j] its'.toArray[j] (atF e xs ys j) := fun j h3 h4 => by
 have l1 : its.toArray.size = xs.length := by rw [List.size_toArray, ← v1.length, q1.length]
 have l2 : its'.toArray.size = ys.length := by rw [List.size_toArray, ← v2.length, q2.length]
 obtain ⟨xd, ex⟩ : ∃ xd, xs[j]? = some xd := ⟨_, List.getElem?_eq_getElem (by rw [← l1]; exact h3)⟩
 obtain ⟨yd, ey⟩ : ∃ yd, ys[j]? = some yd := ⟨_, List.getElem?_eq_getElem (by rw [← l2]; exact h4)⟩
 obtain ⟨xv, e3, r3⟩ := q1.get ex
 obtain ⟨yv, e4, r4⟩ := q2.get ey
 obtain ⟨xu, e5, w5⟩ := v1.get e3
 obtain ⟨yu, e6, w6⟩ := v2.get e4
 have g1 : its.toArray[j] = xu := by
  have := List.getElem?_eq_some_iff.mp e5
  simpa using this.2
 have g2 : its'.toArray[j] = yu := by
  have := List.getElem?_eq_some_iff.mp e6
  simpa using this.2
 rw [g1, g2]
 exact ih xd yd _ xv yv xu yu r3 r4 w5 w6 (eqL_at h j xd yd ex ey)
open PySem.SeqAt in
theorem hits_in {A : Around} {P : Program} {w : World} {K : PySem.W.Frag} {e : D → D → Option Bool} {ls : List Key} {ys : List D} {us : List V} {vb : List (Key × Value)} (ry : Reps K W us ys) (rb : KV (ls.zip us) vb)
  (ih : ∀ x y c u v p q, Rep K W u x → Rep K W v y → RelV u p → RelV v q → e x y = some c → EqIn P w A s p q c) :
  ∀ {ks : List Key} {xs : List D} {vs : List V} {va : List (Key × Value)} {b : Bool}, Reps K W vs xs → KV (ks.zip vs) va → ks.length = xs.length → dctEq e ls ys ks xs = some b → PySem.W.KeqHitsIn P w A s vb va b
 | [], [], _, va, b, .nil, ra, _, h => by
  simp [dctEq] at h
  subst h
  unfold KV at ra
  cases ra
  exact .nil
 | k :: ks, x :: xs, _, va, b, .cons (v := v) (vs := vs) r rs, ra, hl, h => by
  unfold dctEq at h
  cases hr : dctEq e ls ys ks xs with
  | none => rw [hr] at h; cases h
  | some c =>
   rw [hr] at h
   unfold KV at ra
   rw [List.zip_cons_cons] at ra
   cases ra with
   | @cons p q ps qs hh tt =>
    obtain ⟨k', u⟩ := q
    obtain ⟨h1, h2⟩ := hh
    have h1 : k = k' := h1
    subst h1
    have h2 : RelV v u := h2
    have lr := look_rep (j := k) (ks := ls) ry
    have tl := hits_in ry rb ih rs tt (by simpa using hl) hr
    cases hk : lookK ls ys k with
    | none =>
     rw [hk] at lr h
     cases h
     exact .miss (RelO.none_of (by rw [← lr]; exact rb.val k))
    | some y =>
     rw [hk] at lr h
     obtain ⟨yv, e1, r1⟩ := lr
     obtain ⟨yu, e2, w2⟩ := RelO.some_of (v := yv) (o := valueAt vb k) (by rw [← e1]; exact rb.val k)
     cases he : e x y with
     | none => simp [he] at h
     | some a =>
      simp [he] at h
      rw [← h]
      exact .hit e2 (ih x y a v yv u yu r r1 h2 w2 he) tl
 | [], _ :: _, _, _, _, _, _, h, _ => by cases h
 | _ :: _, [], _, _, _, _, _, h, _ => by cases h
open PySem.SeqAt in
theorem eqM_in (I : Inv X pins σ H s) (ok : Ok X.K W H μ) : ∀ (n : Nat) (A : Around) (d e : D) (b : Bool) (u v : V) (p q : Value), A.units + n < cLine → Rep X.K W u d → Rep X.K W v e → RelV u p → RelV v q → eqM n μ d e = some b → EqIn X.prog X.w A s p q b ∧ ((∀ l, d ≠ .hdl l ∨ e ≠ .hdl l) → RcIn X.prog X.w .Eq A s p q b)
 | 0, _, _, _, _, _, _, _, _, _, _, _, _, _, h => by simp [eqM] at h
 | n + 1, A, d, e, b, u, v, p, q, hu, r1, r2, w1, w2, h => by
  have hu0 : A.units < cLine := by omega
  have ih : ∀ x y c u v p q, Rep X.K W u x → Rep X.K W v y → RelV u p → RelV v q → eqM n μ x y = some c → EqIn X.prog X.w A.in1 s p q c := fun x y c u v p q a1 a2 a3 a4 a5 => (eqM_in I ok n A.in1 x y c u v p q (by show A.units + 1 + n < cLine; omega) a1 a2 a3 a4 a5).1
  have both : ∀ {k : Bool}, (RcIn X.prog X.w .Eq A s p q b) → (∀ a, p = .ref a → q = .ref a → b = true) → (∃ a a', p = .ref a ∧ q = .ref a') → EqIn X.prog X.w A s p q b ∧ ((∀ l, d ≠ .hdl l ∨ e ≠ .hdl l) → RcIn X.prog X.w .Eq A s p q b) := fun {k} rc hs ⟨a, a', e1, e2⟩ => by
   refine ⟨?_, fun _ => rc⟩
   by_cases hne : a = a'
   ·subst hne
    rw [hs a e1 e2, e1, e2]
    exact (EqAt.same _).inModel _ _
   ·rw [e1, e2] at rc ⊢
    exact EqIn.of_refs hne rc
  rcases eqM_cases h with ⟨l, rfl, rfl, hb⟩ | ⟨l, m, rfl, rfl, hne, h⟩ | hk
  ·subst hb
   refine ⟨?_, fun z => ?_⟩
   ·cases r1 with
    | hdl h1 => cases r2 with
     | hdl h2 =>
      rw [h1] at h2
      cases h2
      cases w1
      cases w2
      exact (EqAt.same _).inModel _ _
   ·rcases z l with z | z <;> exact absurd rfl z
  ·cases r1 with
   | @hdl a _ h1 => cases r2 with
    | @hdl a' _ h2 =>
     have na : a ≠ a' := fun z => absurd z.symm (ok.io_ne h1 h2 (fun z => hne z.symm))
     cases w1
     cases w2
     have rc : RcIn X.prog X.w .Eq A s (.ref a) (.ref a') b := by
      unfold hdM at h
      split at h
      ·rename_i ks xs ls ys m1 m2
       split at h
       ·rename_i hl
        obtain ⟨o1, g1, vs, rfl, l1, q1⟩ := ok.cell l a _ h1 m1
        obtain ⟨o2, g2, us, rfl, l2, q2⟩ := ok.cell m a' _ h2 m2
        obtain ⟨_, ya, va, ra, da⟩ := (show ObjOk X.prog X.w H s.heap a (.dK (ks.zip vs)) from I.hok a _ g1)
        obtain ⟨_, yb, vb, rb, db⟩ := (show ObjOk X.prog X.w H s.heap a' (.dK (ls.zip us)) from I.hok a' _ g2)
        cases hd : dctEq (eqM n μ) ls ys ks xs with
        | none => rw [hd] at h; cases h
        | some c =>
         rw [hd] at h
         cases h
         have hz := hits_in q2 rb ih q1 ra hl.1 hd
         have e1 : va.length = ks.length := by rw [← ra.length, List.length_zip, ← l1, Nat.min_self]
         have e2 : vb.length = ls.length := by rw [← rb.length, List.length_zip, ← l2, Nat.min_self]
         intro E Q hq
         refine PySem.W.keq_eqIn (knd := mixKind X.prog X.w) ya yb da db hu0 (fun _ => hz) ?_
         rw [e1, e2]
         exact hq
       ·cases h
      ·rename_i xs ys m1 m2
       obtain ⟨o1, g1, vs, rfl, q1⟩ := ok.cell l a _ h1 m1
       obtain ⟨o2, g2, us, rfl, q2⟩ := ok.cell m a' _ h2 m2
       obtain ⟨its, v1, ht, _⟩ := I.list (xs := vs) (.inl (.inl g1))
       obtain ⟨its', v2, ht', _⟩ := I.list (xs := us) (.inl (.inl g2))
       have z1 : its.toArray.size = xs.length := by rw [List.size_toArray, ← v1.length, q1.length]
       have z2 : its'.toArray.size = ys.length := by rw [List.size_toArray, ← v2.length, q2.length]
       have hv := eqL_val h
       intro E Q hq
       by_cases hl : xs.length = ys.length
       ·refine rcIn_lists ht.isList ht'.isList (by rw [z1, z2]; exact hl) hu0 (items_eq q1 q2 v1 v2 h ih) ?_
        rw [hl, Nat.min_self, beq_self_eq_true, Bool.and_true] at hv
        rw [z1, hl, ← hv]
        exact hq
       ·rw [show (xs.length == ys.length) = false from beq_eq_false_iff_ne.mpr hl, Bool.and_false] at hv
        rw [hv] at hq
        exact RcAt.lists_lengths ht.isList ht'.isList (by rw [z1, z2]; simpa using hl) hu0 X.prog X.w E Q hq
      ·cases h
     exact ⟨EqIn.of_refs na rc, fun _ => rc⟩
  ·have same : ∀ a, p = .ref a → q = .ref a → u = .ref a → v = .ref a → b = true := fun a _ _ e1 e2 => by
    subst e1
    subst e2
    exact eqM_same I ok (n + 1) _ d e b r1 r2 h
   have hk0 := hk
   unfold kdM at hk
   cases k1 : d.kd with
   | none => rw [k1] at hk; cases hk
   | flat u1 =>
    obtain ⟨rfl, f1⟩ := kd_flat r1 k1
    cases k2 : e.kd with
    | none => rw [k1, k2] at hk; cases hk
    | flat u2 =>
     obtain ⟨rfl, f2⟩ := kd_flat r2 k2
     rw [k1, k2] at hk
     cases hk
     exact ⟨(eqAt_V w1 w2 f1 f2).inModel _ _, fun _ => rc_flat w1 w2 f1 f2 _ _⟩
    | tup ys =>
     obtain ⟨a, vs, rfl, h2, _⟩ := kd_tup r2 k2
     cases w2
     obtain ⟨its, _, ht, _⟩ := I.tuple (same_t ok.sub h2)
     rw [k1, k2] at hk
     cases hk
     have z := flat_tuple (s := s) (A := A) w1 f1 (show s.heap.IsTuple a its.toArray from ht) hu0
     exact ⟨z.2.1.inModel _ _, fun _ => z.1 _ _⟩
    | lst ys =>
     obtain ⟨a, vs, rfl, h2, _⟩ := kd_lst r2 k2
     cases w2
     obtain ⟨its, _, ht, _⟩ := I.list (same_lq ok.sub h2).sq
     rw [k1, k2] at hk
     cases hk
     have z := flat_list (s := s) (A := A) w1 f1 ht.isList hu0
     exact ⟨z.2.1.inModel _ _, fun _ => z.1 _ _⟩
   | tup xs =>
    obtain ⟨a, vs, rfl, h1, q1⟩ := kd_tup r1 k1
    cases w1
    obtain ⟨its, v1, ht, _⟩ := I.tuple (same_t ok.sub h1)
    cases k2 : e.kd with
    | none => rw [k1, k2] at hk; cases hk
    | flat u2 =>
     obtain ⟨rfl, f2⟩ := kd_flat r2 k2
     rw [k1, k2] at hk
     cases hk
     have z := flat_tuple (s := s) (A := A) w2 f2 (show s.heap.IsTuple a its.toArray from ht) hu0
     exact ⟨z.2.2.2.inModel _ _, fun _ => z.2.2.1 _ _⟩
    | lst ys =>
     obtain ⟨a', us, rfl, h2, q2⟩ := kd_lst r2 k2
     cases w2
     obtain ⟨its', _, ht', _⟩ := I.list (same_lq ok.sub h2).sq
     rw [k1, k2] at hk
     cases hk
     exact ⟨(EqAt.tuple_list (show s.heap.IsTuple a its.toArray from ht) ht'.isList hu0).inModel _ _, fun _ => RcAt.tuple_list (show s.heap.IsTuple a its.toArray from ht) ht'.isList hu0 _ _⟩
    | tup ys =>
     obtain ⟨a', us, rfl, h2, q2⟩ := kd_tup r2 k2
     cases w2
     obtain ⟨its', v2, ht', _⟩ := I.tuple (same_t ok.sub h2)
     rw [k1, k2] at hk
     have l1 : its.toArray.size = xs.length := by rw [List.size_toArray, ← v1.length, q1.length]
     have l2 : its'.toArray.size = ys.length := by rw [List.size_toArray, ← v2.length, q2.length]
     refine both (k := b) (fun E Q hq => ?_) (fun z e1 e2 => same z e1 e2 (by cases e1; rfl) (by cases e2; rfl)) ⟨_, _, rfl, rfl⟩
     refine rcIn_tuples (show s.heap.IsTuple a its.toArray from ht) (show s.heap.IsTuple a' its'.toArray from ht') hu0 (items_eq q1 q2 v1 v2 hk ih) ?_
     rw [l1, l2, ← eqL_val hk]
     exact hq
   | lst xs =>
    obtain ⟨a, vs, rfl, h1, q1⟩ := kd_lst r1 k1
    cases w1
    obtain ⟨its, v1, ht, _⟩ := I.list (same_lq ok.sub h1).sq
    cases k2 : e.kd with
    | none => rw [k1, k2] at hk; cases hk
    | flat u2 =>
     obtain ⟨rfl, f2⟩ := kd_flat r2 k2
     rw [k1, k2] at hk
     cases hk
     have z := flat_list (s := s) (A := A) w2 f2 ht.isList hu0
     exact ⟨z.2.2.2.inModel _ _, fun _ => z.2.2.1 _ _⟩
    | tup ys =>
     obtain ⟨a', us, rfl, h2, q2⟩ := kd_tup r2 k2
     cases w2
     obtain ⟨its', _, ht', _⟩ := I.tuple (same_t ok.sub h2)
     rw [k1, k2] at hk
     cases hk
     exact ⟨(EqAt.list_tuple ht.isList (show s.heap.IsTuple a' its'.toArray from ht') hu0).inModel _ _, fun _ => RcAt.list_tuple ht.isList (show s.heap.IsTuple a' its'.toArray from ht') hu0 _ _⟩
    | lst ys =>
     obtain ⟨a', us, rfl, h2, q2⟩ := kd_lst r2 k2
     cases w2
     obtain ⟨its', v2, ht', _⟩ := I.list (same_lq ok.sub h2).sq
     rw [k1, k2] at hk
     have l1 : its.toArray.size = xs.length := by rw [List.size_toArray, ← v1.length, q1.length]
     have l2 : its'.toArray.size = ys.length := by rw [List.size_toArray, ← v2.length, q2.length]
     have hv := eqL_val hk
     refine both (k := b) (fun E Q hq => ?_) (fun z e1 e2 => same z e1 e2 (by cases e1; rfl) (by cases e2; rfl)) ⟨_, _, rfl, rfl⟩
     by_cases hl : xs.length = ys.length
     ·refine rcIn_lists ht.isList ht'.isList (by rw [l1, l2]; exact hl) hu0 (items_eq q1 q2 v1 v2 hk ih) ?_
      rw [hl, Nat.min_self, beq_self_eq_true, Bool.and_true] at hv
      rw [l1, hl, ← hv]
      exact hq
     ·rw [show (xs.length == ys.length) = false from beq_eq_false_iff_ne.mpr hl, Bool.and_false] at hv
      rw [hv] at hq
      exact RcAt.lists_lengths ht.isList ht'.isList (by rw [l1, l2]; simpa using hl) hu0 X.prog X.w E Q hq
end
end DL
/-! DL48: != of lists, tuples and dicts with cells in them. -/
namespace DL
open PySem L2 PySem.Spec PyProof.Rows
open PySem.SeqAt
open AutoSeq1 (wpAny_loadPart')
open MeetsSeq MeetsSeq2 MeetsSeq3 SeqRoads2
section
variable {P : Program} {w : World}
theorem neLoop (a b : Addr) (xs ys : Array Value) (n m : Nat) (da db : Option Addr) (sa sb : Array (Option Value)) (hz : xs.size = ys.size) (f : Nat → Bool) (k : Nat) :
  ∀ i : Nat, xs.size - i = k → MeetsIn P w (Builtin.«list.__eq__.loop» ⟨[.ref a, .ref b, rawInt i, rawInt 3], []⟩)
   (fun A R s => s.heap.get? a = some { cls := .type "list", dict := da, data := .seq xs n, slots := sa } ∧ s.heap.get? b = some { cls := .type "list", dict := db, data := .seq ys m, slots := sb } ∧
    (∀ j (h1 : j < xs.size) (h2 : j < ys.size), EqIn P w A.in1 s xs[j] ys[j] (f j)) ∧ R (.ok (.ret (.bool (!((List.range xs.size).drop i).all f)))) s) := by
 induction k with
 | zero =>
  intro i hk A R s z
  obtain ⟨hp, g, d, tk, os⟩ := s
  obtain ⟨ha, hb, he, z⟩ := z
  wp_walk using wpAny_loadPart' ha, wpAny_loadPart' hb
  have i1 : xs[((i : Nat) : Int).toNat]? = none := by simp; omega
  have i2 : ys[((i : Nat) : Int).toNat]? = none := by simp; omega
  have hd : (List.range xs.size).drop i = [] := by simp; omega
  rw [hd] at z
  rw [i1, i2]
  wp_walk using wpAny_loadPart' ha, wpAny_loadPart' hb
  show R (.ok (.ret (.bool (xs.size != ys.size)))) _
  rw [hz]
  simpa using z
 | succ k ih =>
  intro i hk A R s z
  obtain ⟨hp, g, d, tk, os⟩ := s
  obtain ⟨ha, hb, he, z⟩ := z
  wp_walk using wpAny_loadPart' ha, wpAny_loadPart' hb
  have q1 : i < xs.size := by omega
  have q2 : i < ys.size := by omega
  have i1 : xs[((i : Nat) : Int).toNat]? = some xs[i] := by simp [q1]
  have i2 : ys[((i : Nat) : Int).toNat]? = some ys[i] := by simp [q2]
  have hd : (List.range xs.size).drop i = i :: (List.range xs.size).drop (i + 1) := by simp [List.drop_eq_getElem_cons, q1]
  have hc : ((i : Int) + 1) = ((i + 1 : Nat) : Int) := by push_cast; rfl
  rw [hd, List.all_cons] at z
  rw [i1, i2]
  refine wpAny_bind (he i q1 q2 _ _ ?_)
  cases hf : f i with
  | true =>
   rw [hf] at z
   wp_walk
   rw [hc]
   refine ⟨plainId_quiet plain_eq_loop _, codeAny_builtin entry_eq_loop ?_⟩
   rw [Around.under_plainId plain_eq_loop _]
   exact ih (i + 1) (by omega) A R _ ⟨ha, hb, he, by simpa using z⟩
  | false =>
   rw [hf] at z
   wp_walk using wpAny_loadPart' ha, wpAny_loadPart' hb
   rw [i1, i2]
   wp_walk
   simpa using z
theorem listNe (a b : Addr) (xs ys : Array Value) (n m : Nat) (da db : Option Addr) (sa sb : Array (Option Value)) (hz : xs.size = ys.size) (f : Nat → Bool) :
  MeetsIn P w (Builtin.«list.__ne__» ⟨[.ref a, .ref b], []⟩)
   (fun A R s => s.heap.get? a = some { cls := .type "list", dict := da, data := .seq xs n, slots := sa } ∧ s.heap.get? b = some { cls := .type "list", dict := db, data := .seq ys m, slots := sb } ∧
    (∀ j (h1 : j < xs.size) (h2 : j < ys.size), EqIn P w A.in1 s xs[j] ys[j] (f j)) ∧ R (.ok (.ret (.bool (!(List.range xs.size).all f)))) s) := by
 intro A R s z
 obtain ⟨hp, g, d, tk, os⟩ := s
 obtain ⟨ha, hb, he, z⟩ := z
 have f3 := AutoSeq1.sub_list_list
 have hn : ¬ (xs.size != ys.size) = true := by simp [hz]
 wp_walk using wpAny_loadPart' ha, wpAny_loadPart' hb
 refine ⟨plainId_quiet plain_eq_loop _, codeAny_builtin entry_eq_loop ?_⟩
 rw [Around.under_plainId plain_eq_loop _]
 exact neLoop a b xs ys n m da db sa sb hz f _ 0 rfl A R _ ⟨ha, hb, he, by simpa using z⟩
theorem rcNe_lists {A : Around} {s : Shared} {E : Value → Shared → Prop} {a b : Addr} {xs ys : Array Value} {f : Nat → Bool} {Q : Value → Shared → Prop} (ha : s.heap.IsList a xs) (hb : s.heap.IsList b ys) (hz : xs.size = ys.size) (hu : A.units < cLine)
  (he : ∀ j (h1 : j < xs.size) (h2 : j < ys.size), EqIn P w A.in1 s xs[j] ys[j] (f j)) (q : Q (.bool (!(List.range xs.size).all f)) s) : wpAny (model P w) A (richCompare .NotEq (.ref a) (.ref b)) Q E s := by
 obtain ⟨⟨c1, dd, dt, sl⟩, ho, hc, n, hd⟩ := id ha
 obtain ⟨⟨c2, dd2, dt2, sl2⟩, ho2, hc2, n2, hd2⟩ := id hb
 simp only at hc hd hc2 hd2
 subst hc hd hc2 hd2
 have fin : Value.bool (!(List.range xs.size).all f) ≠ Value.notImplemented ∧ Q (.bool (!(List.range xs.size).all f)) s := ⟨(fun x => nomatch x), q⟩
 exact wpAny_richCompare_same_room (T := "list") (op := .NotEq) ⟨_, ho, rfl⟩ ⟨_, ho2, rfl⟩ F.slot_list_ne (call_meetsIn F.slot_list_ne ⟨_, ho, rfl⟩ F.entry_list_ne (F.args_list_ne_2 _ _) (listNe a b xs ys n n2 dd dd2 sl sl2 hz f) ⟨ho, ho2, he, fin⟩) hu
theorem rcNe_len {A : Around} {s : Shared} {E : Value → Shared → Prop} {a b : Addr} {xs ys : Array Value} {Q : Value → Shared → Prop} (ha : s.heap.IsList a xs) (hb : s.heap.IsList b ys) (hz : (xs.size != ys.size) = true) (hu : A.units < cLine)
  (q : Q (.bool true) s) : wpAny (model P w) A (richCompare .NotEq (.ref a) (.ref b)) Q E s := by
 obtain ⟨⟨c1, dd, dt, sl⟩, ho, hc, n, hd⟩ := id ha
 obtain ⟨⟨c2, dd2, dt2, sl2⟩, ho2, hc2, n2, hd2⟩ := id hb
 simp only at hc hd hc2 hd2
 subst hc hd hc2 hd2
 have fin : Value.bool true ≠ Value.notImplemented ∧ Q (.bool true) s := ⟨(fun x => nomatch x), q⟩
 exact wpAny_richCompare_same_room (T := "list") (op := .NotEq) ⟨_, ho, rfl⟩ ⟨_, ho2, rfl⟩ F.slot_list_ne (call_meets F.slot_list_ne ⟨_, ho, rfl⟩ F.entry_list_ne (F.args_list_ne_2 _ _) (list_ne_lengthsAt a b xs ys n n2 dd dd2 sl sl2 hz) ⟨ho, ho2, fin⟩) hu
end
section
variable {P : Program} {w : World} {κ : Type} [DecidableEq κ] {knd : KeyKind P w κ} {A : Around} {E : Value → Shared → Prop} {s : Shared}
theorem rcNe_dicts {a b : Addr} {ka kb : List (κ × Value)} {r : Bool} {Q : Value → Shared → Prop} (ha : (a == sysModules) = false) (hb : (b == sysModules) = false)
  (da : s.heap.DictOf knd a ka) (db : s.heap.DictOf knd b kb) (hu : A.units < cLine) (hits : ka.length = kb.length → PySem.W.KeqHitsIn P w A.in1 s kb ka r) (q : Q (.bool (!(ka.length == kb.length && r))) s) :
  wpAny (model P w) A (compareOp .NotEq (.ref a) (.ref b)) Q E s := by
 refine wpAny_richCompare_same_room (op := .NotEq) da.typeIs db.typeIs PySem.F.slot_dict_ne (wpAny_call_entry PySem.F.slot_dict_ne da.typeIs PySem.F.entry_dict_ne ?_ (PySem.F.args_dict_ne_2 _ _)) hu
 show wpAny _ _ (Builtin.Dict.dictSlotArgs "__ne__" ⟨[.ref a, .ref b], []⟩ >>= fun _ => _) _ _ s
 refine wpAny_bind ?_
 unfold Builtin.Dict.dictSlotArgs
 refine wpAny_bind (wpAny_notOrdered_dict da.typeIs ?_)
 show wpAny _ _ (pure (Value.ref a, Value.ref b)) (fun _ _ => _) _ s
 refine wpAny_pure ?_
 refine wpAny_bind (wpAny_isInstance (T := "dict") db.typeIs PySem.F.sub_dict_dict ?_)
 simp only [Bool.not_true, Bool.false_eq_true, if_false]
 refine wpAny_bind (wpAny_pure (wpAny_bind (wpAny_pure ?_)))
 refine wpAny_bind (PySem.W.keq_samePairsIn ha hb da db hits ?_)
 refine wpAny_pure ⟨_, rfl, (fun x => nomatch x), ?_⟩
 simpa using q
end
section
variable {X : Cx} {pins : List (Addr × Obj)} {σ : L2.St} {H : Hp} {s : Shared} {W : Wd} {μ : Mu}
def neOk : D → D → Bool
 | .hdl l, .hdl m => decide (l ≠ m)
 | .lst _, .lst _ => true
 | _, _ => false
theorem neM_in (I : Inv X pins σ H s) (ok : Ok X.K W H μ) (n : Nat) (A : Around) (d e : D) (b : Bool) (u v : V) (p q : Value) (hu : A.units + (n + 1) < cLine) (r1 : Rep X.K W u d) (r2 : Rep X.K W v e) (w1 : RelV u p) (w2 : RelV v q) (hn : neOk d e = true) (h : eqM (n + 1) μ d e = some b) : RcIn X.prog X.w .NotEq A s p q (!b) := by
 have hu0 : A.units < cLine := by omega
 have ih : ∀ x y c u v p q, Rep X.K W u x → Rep X.K W v y → RelV u p → RelV v q → eqM n μ x y = some c → EqIn X.prog X.w A.in1 s p q c := fun x y c u v p q a1 a2 a3 a4 a5 => (eqM_in I ok n A.in1 x y c u v p q (by show A.units + 1 + n < cLine; omega) a1 a2 a3 a4 a5).1
 have lists : ∀ {a a' : Addr} {xs ys : List D} {vs us : List V}, SqL X.K H a vs → SqL X.K H a' us → Reps X.K W vs xs → Reps X.K W us ys → eqL (eqM n μ) xs ys = some b → RcIn X.prog X.w .NotEq A s (.ref a) (.ref a') (!b) := fun {a a' xs ys vs us} h1 h2 q1 q2 h => by
  obtain ⟨its, v1, ht, _⟩ := I.list h1
  obtain ⟨its', v2, ht', _⟩ := I.list h2
  have z1 : its.toArray.size = xs.length := by rw [List.size_toArray, ← v1.length, q1.length]
  have z2 : its'.toArray.size = ys.length := by rw [List.size_toArray, ← v2.length, q2.length]
  have hv := eqL_val h
  intro E Q hq
  by_cases hl : xs.length = ys.length
  ·refine rcNe_lists ht.isList ht'.isList (by rw [z1, z2]; exact hl) hu0 (items_eq q1 q2 v1 v2 h ih) ?_
   rw [hl, Nat.min_self, beq_self_eq_true, Bool.and_true] at hv
   rw [z1, hl, ← hv]
   exact hq
  ·rw [show (xs.length == ys.length) = false from beq_eq_false_iff_ne.mpr hl, Bool.and_false] at hv
   rw [hv] at hq
   exact rcNe_len ht.isList ht'.isList (by rw [z1, z2]; simpa using hl) hu0 hq
 unfold neOk at hn
 split at hn
 ·rename_i l m
  have hne : l ≠ m := of_decide_eq_true hn
  rcases eqM_cases h with ⟨k, e1, e2, _⟩ | ⟨l', m', e1, e2, _, h⟩ | hk
  ·cases e1; cases e2; exact absurd rfl hne
  ·cases e1
   cases e2
   cases r1 with
   | @hdl a _ h1 => cases r2 with
    | @hdl a' _ h2 =>
     cases w1
     cases w2
     unfold hdM at h
     split at h
     ·rename_i ks xs ls ys m1 m2
      split at h
      ·rename_i hl
       obtain ⟨o1, g1, vs, rfl, l1, q1⟩ := ok.cell l a _ h1 m1
       obtain ⟨o2, g2, us, rfl, l2, q2⟩ := ok.cell m a' _ h2 m2
       obtain ⟨_, ya, va, ra, da⟩ := (show ObjOk X.prog X.w H s.heap a (.dK (ks.zip vs)) from I.hok a _ g1)
       obtain ⟨_, yb, vb, rb, db⟩ := (show ObjOk X.prog X.w H s.heap a' (.dK (ls.zip us)) from I.hok a' _ g2)
       cases hd : dctEq (eqM n μ) ls ys ks xs with
       | none => rw [hd] at h; cases h
       | some c =>
        rw [hd] at h
        cases h
        have hz := hits_in q2 rb ih q1 ra hl.1 hd
        have e1 : va.length = ks.length := by rw [← ra.length, List.length_zip, ← l1, Nat.min_self]
        have e2 : vb.length = ls.length := by rw [← rb.length, List.length_zip, ← l2, Nat.min_self]
        intro E Q hq
        refine rcNe_dicts (knd := mixKind X.prog X.w) ya yb da db hu0 (fun _ => hz) ?_
        rw [e1, e2]
        exact hq
      ·cases h
     ·rename_i xs ys m1 m2
      obtain ⟨o1, g1, vs, rfl, q1⟩ := ok.cell l a _ h1 m1
      obtain ⟨o2, g2, us, rfl, q2⟩ := ok.cell m a' _ h2 m2
      exact lists (.inl (.inl g1)) (.inl (.inl g2)) q1 q2 h
     ·cases h
  ·simp [kdM, D.kd] at hk
 ·rename_i xs ys
  rcases eqM_cases h with ⟨k, e1, _⟩ | ⟨l', m', e1, _⟩ | hk
  ·cases e1
  ·cases e1
  ·cases r1 with
   | lst z1 h1 q1 => cases r2 with
    | lst z2 h2 q2 =>
     cases w1
     cases w2
     exact lists (same_lq ok.sub h1).sq (same_lq ok.sub h2).sq q1 q2 hk
 ·cases hn
end
/-- one and the same cell on both sides -/
def oneCell : D → D → Bool
 | .hdl l, .hdl m => decide (l = m)
 | _, _ => false
def dEqM : D → D → Mu → R D := fun x y μ => if oneCell x y = true then .bad else R.of ((eqM 20 μ x y).map .bl) μ
def dNeM : D → D → Mu → R D := fun x y μ => if neOk x y = true then R.of ((eqM 20 μ x y).map fun b => .bl (!b)) μ else dNeX x y μ
section
variable {X : Cx} {E : WX}
theorem opx_eqM (hu : X.A.units + 64 < cLine) : OpX X E (compareOp .Eq) dEqM := by
 intro pins s σ H x y v u Q I rx ry q
 obtain ⟨E', W, μ, dx, dy, ok, r1, r2, p⟩ := q
 unfold dEqM at p
 split at p
 ·exact p.elim
 ·rename_i ho
  revert p
  cases h : eqM 20 μ dx dy with
  | none => exact fun p => p.elim
  | some b =>
   intro p
   have z := (eqM_in I ok 20 X.A dx dy b x y v u (by omega) r1 r2 rx ry h).2 (fun l => by
    by_cases e1 : dx = .hdl l
    ·by_cases e2 : dy = .hdl l
     ·subst e1
      subst e2
      simp [oneCell] at ho
     ·exact .inr e2
    ·exact .inl e1)
   exact z X.xe _ ⟨.bl b, H, I, rfl, post_pure ok p (.bl b)⟩
theorem opx_neM (hu : X.A.units + 64 < cLine) : OpX X E (compareOp .NotEq) dNeM := by
 intro pins s σ H x y v u Q I rx ry q
 obtain ⟨E', W, μ, dx, dy, ok, r1, r2, p⟩ := q
 unfold dNeM at p
 split at p
 ·rename_i hn
  revert p
  cases h : eqM 20 μ dx dy with
  | none => exact fun p => p.elim
  | some b =>
   intro p
   exact neM_in I ok 19 X.A dx dy b x y v u (by omega) r1 r2 rx ry hn h X.xe _ ⟨.bl (!b), H, I, rfl, post_pure ok p (.bl _)⟩
 ·exact opx_neX (E := E) hu pins s σ H x y v u Q I rx ry ⟨E', W, μ, dx, dy, ok, r1, r2, p⟩
end
end DL
/-! DL49: dict comprehensions. -/
namespace DL
open PySem L2 PySem.Spec PyProof.Rows
def dcD (t : Tg) (ft : FT) (fk fe : FE) (ρ : En) : List D → Mu → List Key × List D → R (List Key × List D)
 | [], μ, q => .ok q μ
 | x :: xs, μ, q => match asg t x ρ with
  | none => .bad
  | some ρ1 => (ft ρ1 μ).nox.bind fun b μ1 => if b = true then (fk ρ1 μ1).nox.bind fun k μ2 => (fe ρ1 μ2).nox.bind fun y μ3 => (match keyD k with
    | some j => dcD t ft fk fe ρ xs μ3 (putD q.1 q.2 j y)
    | none => .bad) else dcD t ft fk fe ρ xs μ1 q
def ddc (fi : FA) (vs : List Nat) (t : Tg) (ft : FT) (fk fe : FE) : FE := fun ρ μ => (fi ρ μ).bind fun xs μ1 => (dcD t ft fk fe (wipeD ρ vs) xs μ1 ([], [])).bind fun q μ2 => .ok (.hdl μ2.length) (μ2 ++ [.dct q.1 q.2])
/-- an object that stands outside becomes a cell -/
theorem okAdopt {K : PySem.W.Frag} {W : Wd} {H : Hp} {μ : Mu} {p : Addr} {m : MO} {o : HO} (ok : Ok K W H μ) (h : H p = some o) (h1 : W.S p = none) (h2 : p ∉ W.io) (c : CellO K W m o) : Ok K (W.cell p) H (μ ++ [m]) := by
 have le : Le W (W.cell p) := ⟨Same.refl _, List.prefix_append _ _⟩
 have get : ∀ (l : Nat) a k, (W.io ++ [p])[l]? = some a → (μ ++ [m])[l]? = some k → (W.io[l]? = some a ∧ μ[l]? = some k) ∨ (a = p ∧ k = m) := fun l a k e1 e2 => by
  by_cases hl : l < W.io.length
  ·rw [List.getElem?_append_left hl] at e1
   rw [List.getElem?_append_left (by rw [← ok.len]; exact hl)] at e2
   exact .inl ⟨e1, e2⟩
  ·rw [List.getElem?_append_right (by omega)] at e1
   rw [List.getElem?_append_right (by rw [← ok.len]; omega), ← ok.len] at e2
   cases hz : l - W.io.length with
   | zero =>
    rw [hz] at e1 e2
    simp at e1 e2
    exact .inr ⟨e1.symm, e2.symm⟩
   | succ n =>
    rw [hz] at e1
    simp at e1
 refine ⟨ok.sub, by simp [Wd.cell, ok.len], ?_, fun l a k e1 e2 n => ?_, fun l a k e1 e2 => ?_, ⟨ok.tab.all, ok.tab.no⟩⟩
 ·show (W.io ++ [p]).Nodup
  rw [List.nodup_append]
  exact ⟨ok.nd, by simp, fun x hx y hy z => h2 (by
   have e : y = p := by simpa using hy
   rw [← e, ← z]; exact hx)⟩
 ·show W.S a = none
  rcases get l a k e1 e2 with ⟨e1, e2⟩ | ⟨rfl, rfl⟩
  ·exact ok.apart l a k e1 e2 n
  ·exact h1
 ·rcases get l a k e1 e2 with ⟨e1, e2⟩ | ⟨rfl, rfl⟩
  ·exact (ok.cell l a k e1 e2).mono le fun u e => e
  ·exact ⟨o, h, c.mono le⟩
section
variable {X : Cx} {E : WX} {pos : Pos}
theorem tDc_of {fi : FA} {vs : List Nat} {t : Tg} {ft : FT} {fk fe : FE} (hsub : ∀ i ∈ t.slots, i ∈ vs) : ∀ σ H Q, rE X.K E (ddc fi vs t ft fk fe) σ H Q → tDc (rI X.K E fi) (rG X.K t) (rT X.K E0 ft) (rE X.K E0 fk) (rE X.K E0 fe) vs σ H Q := fun σ H Q ⟨W, ρ, μ, ok, en, p⟩ => by
 refine ⟨W, ρ, μ, ok, en, ?_⟩
 unfold ddc at p
 revert p
 cases fi ρ μ with
 | ex c fs μ1 => exact fun p => p
 | bad => exact fun p => p
 | ok xs μ1 =>
  rw [R.bind_ok]
  intro p W1 J H1 g1 o1 wk Dn hD
  have hz := wk.len
  have en1 := (en.mono g1.le).wipe vs
  refine ⟨fun i m H2 => m = xs.length - i ∧ i ≤ xs.length ∧ ∃ W2 μ2 ks acc ds, Go W1 H1 W2 H2 ∧ Ok X.K W2 H2 μ2 ∧ H2 Dn = some (.dK (ks.zip acc)) ∧ Dn ∉ W2.io ∧ W2.S Dn = none ∧ Reps X.K W2 acc ds ∧ ks.Nodup ∧ ks.length = acc.length ∧ acc.length ≤ i ∧ postE X.K (WE E σ) W1 H1 ((dcD t ft fk fe (wipeD ρ vs) (xs.drop i) μ2 (ks, ds)).bind fun q μ3 => .ok (.hdl μ3.length) (μ3 ++ [.dct q.1 q.2])) Q,
   ⟨xs.length, by simp, Nat.zero_le _, W1, μ1, [], [], [], (Go.refl _ _).other hD, o1.other (o1.snone hD) (o1.notio hD) (.inl hD), upd_same, o1.notio hD, o1.snone hD, .nil, List.nodup_nil, rfl, Nat.le_refl _, ?_⟩, ?_⟩
  ·exact post.mono g1 p
  rintro i m H2 ⟨rfl, hi, W2, μ2, ks, acc, ds, g2, o2, hacc, n2, s2, r2, nd2, kl2, l2, p2⟩
  have sm : Same W1.S H2 := g2.le.s.trans o2.sub
  by_cases hlt : i < xs.length
  ·rw [List.drop_eq_getElem_cons hlt] at p2
   unfold dcD at p2
   refine .inr ⟨wk.go H2 i sm hlt, fun H3 => ∃ W3 μ3 ks acc ds, Go W1 H1 W3 H3 ∧ Ok X.K W3 H3 μ3 ∧ H3 Dn = some (.dK (ks.zip acc)) ∧ Dn ∉ W3.io ∧ W3.S Dn = none ∧ Reps X.K W3 acc ds ∧ ks.Nodup ∧ ks.length = acc.length ∧ acc.length ≤ i + 1 ∧ postE X.K (WE E σ) W1 H1 ((dcD t ft fk fe (wipeD ρ vs) (xs.drop (i + 1)) μ3 (ks, ds)).bind fun q μ3 => .ok (.hdl μ3.length) (μ3 ++ [.dct q.1 q.2])) Q,
    fun H3 ⟨W3, μ3, ks, acc, ds, q⟩ => ⟨xs.length - (i + 1), by omega, rfl, hlt, W3, μ3, ks, acc, ds, q⟩, fun x H3 y => ?_⟩
   obtain ⟨W3, g3, o3, r3⟩ := wk.yld H2 i x H3 sm y xs[i] (List.getElem?_eq_getElem hlt) W2 μ2 g2.le o2
   obtain ⟨a3, s3, n3⟩ := g3.out hacc s2 n2
   revert p2
   cases e : asg t xs[i] (wipeD ρ vs) with
   | none => exact fun p => p.elim
   | some ρ3 =>
    dsimp only
    intro p2
    refine ⟨W3, wipeD ρ vs, ρ3, xs[i], μ2, o3, en1.mono (g2.le.trans g3.le), r3, e, fun σ4 en4 b4 => ⟨wipe_but hsub b4, ?_⟩⟩
    refine ⟨W3, ρ3, μ2, o3, en4, ?_⟩
    revert p2
    cases ft ρ3 μ2 with
    | ex c fs μ4 => exact fun p => p.elim
    | bad => exact fun p => p.elim
    | ok b μ4 =>
     rw [R.nox_ok, R.bind_ok]
     intro p2 W4 H4 g4 o4
     obtain ⟨a4, s4, n4⟩ := g4.out a3 s3 n3
     cases b with
     | false =>
      rw [if_neg Bool.false_ne_true] at p2 ⊢
      exact ⟨W4, μ4, ks, acc, ds, (g2.trans g3).trans g4, o4, a4, n4, s4, r2.mono (g3.le.trans g4.le), nd2, kl2, by omega, p2⟩
     | true =>
      rw [if_pos rfl] at p2 ⊢
      refine ⟨W4, ρ3, μ4, o4, en4.mono g4.le, ?_⟩
      revert p2
      cases fk ρ3 μ4 with
      | ex c fs μ5 => exact fun p => p.elim
      | bad => exact fun p => p.elim
      | ok kd μ5 =>
       rw [R.nox_ok, R.bind_ok]
       intro p2 W5 kv H5 g5 o5 r5
       obtain ⟨a5, s5, n5⟩ := g5.out a4 s4 n4
       refine ⟨W5, ρ3, μ5, o5, (en4.mono g4.le).mono g5.le, ?_⟩
       revert p2
       cases fe ρ3 μ5 with
       | ex c fs μ6 => exact fun p => p.elim
       | bad => exact fun p => p.elim
       | ok yd μ6 =>
        rw [R.nox_ok, R.bind_ok]
        cases hk : keyD kd with
        | none => exact fun p => p.elim
        | some j =>
         dsimp only
         intro p2 W6 yv H6 g6 o6 r6
         obtain ⟨a6, s6, n6⟩ := g6.out a5 s5 n5
         have ek := key_rep r5 hk
         have dl : ks.length = ds.length := by rw [kl2, r2.length]
         obtain ⟨pz, pl⟩ := put_zip (j := j) (d := yd) (v := yv) (xs := ds) nd2 kl2 dl
         have rr := putVs_reps (j := j) r6 kl2 (r2.mono (((g3.le.trans g4.le).trans g5.le).trans g6.le))
         have lp := length_putK (ks.zip acc) j yv
         have lz : (ks.zip acc).length = acc.length := by rw [List.length_zip, kl2, Nat.min_self]
         refine ⟨_, j, ek, a6, ?_, W6, μ6, (putD ks ds j yd).1, putVs ks acc j yv, (putD ks ds j yd).2, ((((g2.trans g3).trans g4).trans g5).trans g6).other hD, o6.other s6 n6 (.inr ⟨_, a6, (fun _ z => nomatch z), (fun _ z => nomatch z)⟩), by rw [← pz]; exact upd_same, n6, s6, rr, putD_nodup nd2, pl, ?_, p2⟩
         ·rw [lz]; omega
         ·rw [pz, List.length_zip, pl, Nat.min_self] at lp
          omega
  ·have ei : i = xs.length := by omega
   subst ei
   rw [List.drop_length] at p2
   unfold dcD at p2
   rw [R.bind_ok] at p2
   refine .inl ⟨wk.stop H2 _ sm (Nat.le_refl _), ?_⟩
   have ok3 := okAdopt (m := .dct ks ds) o2 hacc s2 n2 ⟨acc, rfl, kl2, r2⟩
   refine p2 (W2.cell Dn) (.ref Dn) H2 ⟨g2.le.trans ⟨Same.refl _, List.prefix_append _ _⟩, g2.kept, g2.grow, fun a e => ?_, g2.newS⟩ ok3 (.hdl ?_)
   ·have e : a ∈ W2.io ++ [Dn] := e
    rcases List.mem_append.mp e with e | e
    ·exact g2.newio a e
    ·have e : a = Dn := by simpa using e
     rw [e]; exact .inr hD
   ·show (W2.io ++ [Dn])[μ2.length]? = some Dn
    rw [← o2.len]
    simp
theorem de_dc {kx vx tg iter : Expr} {ifs : List Expr} {scope : Scope} {fi : FA} {t : Tg} {ft : FT} {fk fe : FE} (own : List (Str × Nat)) (hc : X.calm = true) (hN : X.N.Nodup) (hi : DI X E tg iter fi) (ok : BlkOk X.N X.env.scope scope own)
  (hg : ∀ (s : Shared) (H : Hp) (C : Addr) (cl : List (Str × Addr)) (fp : List Addr), DG (X.blk s H scope (compEnvC scope cl C X.env) fp) tg t) (ht : ∀ (s : Shared) (H : Hp) (C : Addr) (cl : List (Str × Addr)) (fp : List Addr), DTs (X.blk s H scope (compEnvC scope cl C X.env) fp) ifs ft)
  (hk : ∀ (s : Shared) (H : Hp) (C : Addr) (cl : List (Str × Addr)) (fp : List Addr), DE (X.blk s H scope (compEnvC scope cl C X.env) fp) E0 kx fk)
  (he : ∀ (s : Shared) (H : Hp) (C : Addr) (cl : List (Str × Addr)) (fp : List Addr), DE (X.blk s H scope (compEnvC scope cl C X.env) fp) E0 vx fe) (hsub : ∀ i ∈ t.slots, i ∈ own.map (·.2) := by decide) (hs : ∀ x, foldedSetIterable iter X.env x = pure x := by intro _; rfl) :
  DE X E (.DictComp kx vx [⟨tg, iter, ifs, 0⟩] scope pos) (ddc fi (own.map (·.2)) t ft fk fe) := pe_imp (pe_dc (tk := rE X.K E0 fk) (tv := rE X.K E0 fe) (g := rG X.K t) (tt := rT X.K E0 ft) hc hN hi ok hg ht hk he hs) (tDc_of hsub)
end
end DL
/-! DL50: walks over d.items(), the dict locked meanwhile. -/
namespace DL
open PySem L2 PySem.Spec PyProof.Rows
section
variable {K : PySem.W.Frag} {W W2 : Wd} {H H2 : Hp} {μ μ2 : Mu} {a : Addr} {l : Nat} {m : MO} {od : Obj} {u : HO}
/-- what is locked is no list, no tuple, no object -/
def Aside (u : HO) : Prop := (∀ xs, u ≠ .lst xs) ∧ (∀ xs, u ≠ .tup xs) ∧ ∀ φ, u ≠ .ext φ
def Wd.less (W : Wd) (a : Addr) : Wd := ⟨del W.S a, W.io⟩
theorem less_rd {b : Addr} {x : HO} (h : W.S a = some (.frz od u)) (hx : x ≠ u) (hx2 : x ≠ .frz od u) (r : Rd W.S b x) : Rd (W.less a).S b x := by
 have ne : b ≠ a := fun z => by
  subst z
  rcases r with r | ⟨o, r⟩
  ·rw [h] at r; cases r; exact hx2 rfl
  ·rw [h] at r; cases r; exact hx rfl
 rcases r with r | ⟨o, r⟩
 ·exact .inl (by show del W.S a b = _; rw [del_ne ne]; exact r)
 ·exact .inr ⟨o, by show del W.S a b = _; rw [del_ne ne]; exact r⟩
theorem less_sqt {b : Addr} {xs : List V} (h : W.S a = some (.frz od u)) (hn : Aside u) (r : SqT K W.S b xs) : SqT K (W.less a).S b xs := by
 rcases r with r | r
 ·exact .inl (less_rd h (fun z => hn.2.1 xs z.symm) (fun z => nomatch z) r)
 ·exact .inr r
theorem less_lq {b : Addr} {xs : List V} (h : W.S a = some (.frz od u)) (hn : Aside u) (r : Lq K W.S b xs) : Lq K (W.less a).S b xs := by
 rcases r with r | r
 ·exact .inl (less_rd h (fun z => hn.1 xs z.symm) (fun z => nomatch z) r)
 ·exact .inr r
theorem ExAt.less {b C : Addr} {ns : List Str} {vs : List V} (h : W.S a = some (.frz od u)) (q : ExAt W.S b C ns vs) : ExAt (W.less a).S b C ns vs := by
 rcases q with ⟨q, z⟩ | ⟨dx, q1, q2, q3⟩
 ·refine .inl ⟨?_, z⟩
  show del W.S a _ = _
  rw [del_ne (fun z => by rw [z, h] at q; cases q)]
  exact q
 ·refine .inr ⟨dx, ?_, ?_, q3⟩
  ·show del W.S a _ = _
   rw [del_ne (fun z => by rw [z, h] at q1; cases q1)]
   exact q1
  ·show del W.S a _ = _
   rw [del_ne (fun z => by rw [z, h] at q2; cases q2)]
   exact q2
theorem TtS.less {b c : Addr} {ob : Obj} {xs : List (List Key × Addr × Value)} (h : W.S a = some (.frz od u)) (hn : Aside u) (q : TtS K W.S ob b c xs) : TtS K (W.less a).S ob b c xs := by
 refine ⟨?_, q.sys, q.whole, q.nd, fun x hx => less_sqt h hn (q.at_ x hx), q.len⟩
 show del W.S a _ = _
 rw [del_ne (fun z => by
  have e := q.at0
  rw [z, h] at e
  cases e
  exact hn.2.2 _ rfl)]
 exact q.at0
mutual
theorem Rep.less (h : W.S a = some (.frz od u)) (hn : Aside u) : ∀ {v : V} {d : D}, Rep K W v d → Rep K (W.less a) v d
 | _, _, .non => .non
 | _, _, .bl b => .bl b
 | _, _, .int i => .int i
 | _, _, .str x z => .str x z
 | _, _, .tup z q r => .tup z (less_sqt h hn q) (Reps.less h hn r)
 | _, _, .lst z q r => .lst z (less_lq h hn q) (Reps.less h hn r)
 | _, _, .hdl q => .hdl q
 | _, _, .cst v => .cst v
 | _, _, .glo c => .glo c
 | _, _, .obj q n r => .obj (by
   show del W.S a _ = _
   rw [del_ne (fun z => by rw [z, h] at q; cases q)]
   exact q) n (Reps.less h hn r)
 | _, _, .exc q r => .exc (q.less h) (Reps.less h hn r)
 | _, _, .dtc q v r => .dtc (q.less h hn) v (Reps.less h hn r)
theorem Reps.less (h : W.S a = some (.frz od u)) (hn : Aside u) : ∀ {vs : List V} {ds : List D}, Reps K W vs ds → Reps K (W.less a) vs ds
 | _, _, .nil => .nil
 | _, _, .cons r t => .cons (Rep.less h hn r) (Reps.less h hn t)
end
theorem CellO.less (h : W.S a = some (.frz od u)) (hn : Aside u) : ∀ {m : MO} {o : HO}, CellO K W m o → CellO K (W.less a) m o
 | .lst ds, _, ⟨vs, e, r⟩ => ⟨vs, e, r.less h hn⟩
 | .dct ks ds, _, ⟨vs, e, n, r⟩ => ⟨vs, e, n, r.less h hn⟩
 | .dtt ks ds, _, ⟨b, xs, vs, r⟩ => ⟨b, xs, vs, r.is, r.sys, r.key, r.whole, r.nd, fun x hx => less_sqt h hn (r.at_ x hx), r.val, r.rep.less h hn, r.len, r.nc⟩
 | .ins C ns ds, _, ⟨dx, vs, e, n, r⟩ => ⟨dx, vs, e, n, r.less h hn⟩
 | .gone, _, h => h
end
end DL
/-! DL51: comprehensions and for over a dict that is locked meanwhile. -/
namespace DL
open PySem L2 PySem.Spec PyProof.Rows
section
variable {X : Cx} {E : WX} {pos : Pos}
abbrev here (J : It) : TI := fun _ H R => R J H
def R.mu {α : Type} : R α → Mu
 | .ok _ μ => μ
 | _ => []
theorem Envs.less {K : PySem.W.Frag} {W : Wd} {a : Addr} {od : Obj} {u : HO} {σ : L2.St} {ρ : En} (h : W.S a = some (.frz od u)) (hn : Aside u) (e : Envs K W σ ρ) : Envs K (W.less a) σ ρ := ⟨e.len, fun i d q => by
 obtain ⟨v, h1, h2⟩ := e.at_ i d q
 exact ⟨v, h1, h2.less h hn⟩⟩
end
end DL
/-! DL52: comprehensions and for over d.items(), d.values(), d.keys(), d. -/
namespace DL
open PySem L2 PySem.Spec PyProof.Rows
theorem Cal.z {X : Cx} {E : WX} {k : Nat} (c : Cal X E k) : Cal X E0 k := ⟨c.room, c.guards, take0⟩
end DL
/-! DL53: methods by keywords, o.f op= e, repr of an empty dict, recursion's start. -/
namespace DL
open PySem L2 PySem.Spec PyProof.Rows
/-! ### repr({}) -/
def bReprM : List D → Mu → R D
 | [.hdl l], μ => match μ[l]? with
  | some (.dct [] []) => .ok (.str "{}") μ
  | _ => .bad
 | ds, μ => bRepr ds μ
theorem cx_reprM {X : Cx} {E : WX} (hg : X.A.guards = some []) (hu : X.A.units + 64 < cLine) : CallX X E (.builtin "repr") bReprM := by
 intro pins s σ H xs us Q I rx q
 obtain ⟨E', W, μ, ds, ok, r1, p⟩ := q
 unfold bReprM at p
 split at p
 ·rename_i l
  split at p
  ·rename_i hm
   cases r1 with
   | cons r1 r2 =>
    cases r2
    cases rx with
    | cons w1 w2 =>
     cases w2
     cases r1 with
     | @hdl a _ ha =>
      cases w1
      obtain ⟨o, ho, vs, rfl, hl, rs⟩ := ok.cell l a _ ha hm
      cases rs
      obtain ⟨_, ya, va, ra, oo, es, ep, go, ex, od, _, pr, _⟩ := dk_of I.hok ho
      have ra : KV ([] : List (Key × V)) va := ra
      unfold KV at ra
      cases ra
      have he : es.toList = [] := by
       have := pr.length
       exact List.eq_nil_of_length_eq_zero (by simpa using this)
      have rd : Reads s.heap (.ref a) (.dict []) (a :: [] ++ []) := Reads.dict go ex.1 od (by rw [he]; exact .nil) (by rw [he]; exact .nil)
      have hs : (PyData.dict []).shown = ("{}" : Str) := by decide +kernel
      refine repr_of_reads' rd (by decide) (fun _ z => ?_) hg (by show _ + (PyData.depth _ + 1) < cLine; simp [PyData.depth, PyData.depthKv]; omega) (fun _ _ e => e) (fun h' tk tk' hk => ?_) (by rw [hs]; decide)
      ·have z : sysModules = a := by simpa using z
       rw [← z] at ya
       simp at ya
      ·rw [hs]
       exact ⟨.str "{}", H, I.kept hk, ⟨_, rfl⟩, post_pure ok p (.str _ (by decide))⟩
  ·exact p.elim
 ·exact cx_repr (E := E) hg hu pins s σ H xs us Q I rx ⟨E', W, μ, _, ok, r1, p⟩
end DL
/-! DL54: names forgotten; a for whose turns leave nothing behind. -/
namespace DL
open PySem L2 PySem.Spec PyProof.Rows
/-- slots that are known no more -/
def blank (vs : List Nat) (ρ : En) : En := go 0 ρ where
 go (i : Nat) : En → En
 | [] => []
 | x :: xs => (if i ∈ vs then none else x) :: go (i + 1) xs
theorem blank_go {vs : List Nat} : ∀ {ρ : En} {i : Nat}, (blank.go vs i ρ).length = ρ.length ∧ ∀ (j : Nat) d, (blank.go vs i ρ)[j]? = some (some d) → ρ[j]? = some (some d)
 | [], i => ⟨rfl, fun j d h => by simp [blank.go] at h⟩
 | x :: xs, i => by
  obtain ⟨h1, h2⟩ := blank_go (vs := vs) (ρ := xs) (i := i + 1)
  refine ⟨by simp [blank.go, h1], fun j d h => ?_⟩
  cases j with
  | zero =>
   simp only [blank.go, List.getElem?_cons_zero] at h ⊢
   split at h
   ·cases h
   ·exact h
  | succ j =>
   simp only [blank.go, List.getElem?_cons_succ] at h ⊢
   exact h2 j d h
theorem Envs.blank {K : PySem.W.Frag} {W : Wd} {σ : L2.St} {ρ : En} (h : Envs K W σ ρ) (vs : List Nat) : Envs K W σ (DL.blank vs ρ) := by
 obtain ⟨h1, h2⟩ := blank_go (vs := vs) (ρ := ρ) (i := 0)
 exact ⟨h1.trans h.len, fun i d e => h.at_ i d (h2 i d e)⟩
def gforget (vs : List Nat) (g : FS) : FS := fun ρ μ => g (blank vs ρ) μ
/-- nothing points to a cell from n on -/
def closedEn (n : Nat) : En → Bool
 | [] => true
 | none :: r => closedEn n r
 | some d :: r => d.closed n && closedEn n r
theorem closedEn_at {n : Nat} : ∀ {ρ : En} {i : Nat} {d : D}, closedEn n ρ = true → ρ[i]? = some (some d) → d.closed n = true
 | [], _, _, _, h => by simp at h
 | none :: r, 0, _, _, h => by simp at h
 | none :: r, i + 1, d, c, h => closedEn_at (ρ := r) (i := i) (by simpa [closedEn] using c) (by simpa using h)
 | some x :: r, 0, d, c, h => by
  simp at h
  subst h
  simp [closedEn] at c
  exact c.1
 | some x :: r, i + 1, d, c, h => by
  simp [closedEn] at c
  exact closedEn_at (ρ := r) (i := i) c.2 (by simpa using h)
def okCut (n : Nat) (ρ : En) (μ : Mu) : Bool := closedEn n ρ && closedMu n μ
def forT (t : Tg) (b : FS) (vs : List Nat) : List D → En → Mu → O
 | [], ρ, μ => .nx ρ μ
 | x :: xs, ρ, μ => match asg t x ρ with
  | none => .bad
  | some ρ1 => match b ρ1 μ with
   | .nx ρ2 μ2 => if okCut μ.length (blank vs ρ2) μ2 = true then forT t b vs xs (blank vs ρ2) (μ2.take μ.length) else .bad
   | .ct ρ2 μ2 => if okCut μ.length (blank vs ρ2) μ2 = true then forT t b vs xs (blank vs ρ2) (μ2.take μ.length) else .bad
   | .bk ρ2 μ2 => .nx ρ2 μ2
   | o => o
def gforT (fi : FA) (t : Tg) (b : FS) (vs : List Nat) : FS := fun ρ μ => (fi ρ μ).to ρ fun xs μ1 => forT t b vs xs (blank vs ρ) μ1
theorem Envs.cut {K : PySem.W.Frag} {W : Wd} {σ : L2.St} {ρ : En} {n : Nat} (h : Envs K W σ ρ) (c : closedEn n ρ = true) : Envs K ⟨W.S, W.io.take n⟩ σ ρ := ⟨h.len, fun i d e => by
 obtain ⟨v, h1, h2⟩ := h.at_ i d e
 exact ⟨v, h1, h2.cut (closedEn_at c e)⟩⟩
section
variable {X : Cx} {E : WX} {pos : Pos}
theorem ds_forget (vs : List Nat) {g : FS} {sts : List Stmt} (h : DSs X E sts g) : DSs X E sts (gforget vs g) := pss_imp h fun Z σ H ⟨W, ρ, μ, ok, en, p⟩ => ⟨W, blank vs ρ, μ, ok, en.blank vs, p⟩
theorem ds_forT {tg iter : Expr} {body : List Stmt} {fi : FA} {t : Tg} {b : FS} (vs : List Nat) (hp : PassesOwn (model X.prog X.w) X.A X.env X.xe) (hc : X.calm = true) (hi : DI X E tg iter fi) (hg : DG X tg t) (hb : DSs X E body b)
  (hs : ∀ x, foldedSetIterable iter X.env x = pure x := by intro _; rfl) : DS X E (.For tg iter body [] pos) (gforT fi t b vs) := by
 refine ps_imp (ps_for hp hc hi hg hb hs) fun Z σ H ⟨W, ρ, μ, ok, en, p⟩ => ?_
 refine ⟨W, ρ, μ, ok, en, ?_⟩
 unfold gforT at p
 revert p
 cases fi ρ μ with
 | ex c fs μ1 => exact fun p W' H' d g o r => p W' σ H' d g o (en.mono g.le) r
 | bad => exact fun p => p
 | ok xs μ1 =>
  rw [R.to_ok]
  intro p W1 J H1 g1 o1 wk
  refine ⟨fun i m σ H => m = xs.length - i ∧ i ≤ xs.length ∧ ∃ W2 ρ μ, Le W1 W2 ∧ Ok X.K W2 H μ ∧ Envs X.K W2 σ ρ ∧ postS X.K E W2 H (forT t b vs (xs.drop i) ρ μ) Z, ⟨xs.length, by simp, Nat.zero_le _, W1, _, μ1, Le.refl _, o1, (en.mono g1.le).blank vs, postS.mono g1 p⟩, ?_⟩
  rintro i m σ2 H2 ⟨rfl, hi, W2, ρ2, μ2, l2, o2, en2, p2⟩
  have s2 : Same W1.S H2 := l2.s.trans o2.sub
  by_cases hlt : i < xs.length
  ·rw [List.drop_eq_getElem_cons hlt] at p2
   unfold forT at p2
   refine .inr ⟨wk.go H2 i s2 hlt, fun σ3 H3 => ∃ W3 ρ3 μ3, Le W1 W3 ∧ Ok X.K W3 H3 μ3 ∧ Envs X.K W3 σ3 ρ3 ∧ postS X.K E W3 H3 (forT t b vs (xs.drop (i + 1)) ρ3 μ3) Z, fun σ3 H3 ⟨W3, ρ3, μ3, l3, o3, en3, p3⟩ => ⟨xs.length - (i + 1), by omega, rfl, hlt, W3, ρ3, μ3, l3, o3, en3, p3⟩, fun x H3 y => ?_⟩
   obtain ⟨W3, g3, o3, r3⟩ := wk.yld H2 i x H3 s2 y xs[i] (List.getElem?_eq_getElem hlt) W2 μ2 l2 o2
   revert p2
   cases e : asg t xs[i] ρ2 with
   | none => exact fun p => p.elim
   | some ρ3 =>
    intro p2
    refine ⟨W3, ρ2, ρ3, xs[i], μ2, o3, en2.mono g3.le, r3, e, fun σ4 en4 _ => ⟨W3, ρ3, μ2, o3, en4, ?_⟩⟩
    have turn : ∀ {ρ5 : En} {μ5 : Mu}, postS X.K E W2 H2 (if okCut μ2.length (blank vs ρ5) μ5 = true then forT t b vs (xs.drop (i + 1)) (blank vs ρ5) (μ5.take μ2.length) else .bad) Z →
      ∀ W5 σ5 H5, Go W3 H3 W5 H5 → Ok X.K W5 H5 μ5 → Envs X.K W5 σ5 ρ5 → ∃ W3 ρ3 μ3, Le W1 W3 ∧ Ok X.K W3 H5 μ3 ∧ Envs X.K W3 σ5 ρ3 ∧ postS X.K E W3 H5 (forT t b vs (xs.drop (i + 1)) ρ3 μ3) Z := fun {ρ5 μ5} p W5 σ5 H5 g5 o5 e5 => by
     by_cases hk : okCut μ2.length (blank vs ρ5) μ5 = true
     ·rw [if_pos hk] at p
      unfold okCut at hk
      simp only [Bool.and_eq_true] at hk
      have gc := (g3.trans g5).cut
      rw [o2.len] at gc
      exact ⟨_, _, _, l2.trans gc.le, o5.cut hk.2, (e5.blank vs).cut hk.1, postS.mono gc p⟩
     ·rw [if_neg hk] at p
      exact p.elim
    revert p2
    dsimp only
    cases b ρ3 μ2 with
    | nx ρ5 μ5 => exact fun p W5 σ5 H5 g5 o5 e5 => turn p W5 σ5 H5 g5 o5 e5
    | ct ρ5 μ5 => exact fun p W5 σ5 H5 g5 o5 e5 => turn p W5 σ5 H5 g5 o5 e5
    | bk ρ5 μ5 => exact fun p => postS.mono g3 p
    | rt d μ5 => exact fun p => postS.mono g3 p
    | ex c fs μ5 => exact fun p => postS.mono g3 p
    | bad => exact fun p => p
  ·have ei : i = xs.length := by omega
   subst ei
   rw [List.drop_length] at p2
   exact .inl ⟨wk.stop H2 _ s2 (Nat.le_refl _), p2 W2 σ2 H2 (Go.refl _ _) o2 en2⟩
end
/-- the names all unknown -/
def blankB : En → Bool
 | [] => true
 | none :: r => blankB r
 | some _ :: _ => false
/-- a turn leaves nothing behind: by its outcome -/
def turnB (vs : List Nat) (n : Nat) : O → Bool
 | .nx ρ μ => closedMu 0 μ && (blankB (blank vs ρ) && decide (ρ.length = n))
 | _ => false
theorem blankB_eq : ∀ {ρ : En}, blankB ρ = true → ρ = List.replicate ρ.length none
 | [], _ => rfl
 | none :: r, h => by
  rw [List.length_cons, List.replicate_succ, ← blankB_eq (by simpa [blankB] using h)]
 | some _ :: _, h => by simp [blankB] at h
theorem closedEn_blank {n : Nat} : ∀ {ρ : En}, blankB ρ = true → closedEn n ρ = true
 | [], _ => rfl
 | none :: r, h => by simpa [closedEn] using closedEn_blank (n := n) (by simpa [blankB] using h)
 | some _ :: _, h => by simp [blankB] at h
/-- all turns leave nothing behind -/
theorem forT_all {t : Tg} {b : FS} {vs : List Nat} {n : Nat} : ∀ {xs : List D}, (∀ x ∈ xs, ∃ ρ1, asg t x (List.replicate n none) = some ρ1 ∧ turnB vs n (b ρ1 []) = true) → forT t b vs xs (List.replicate n none) [] = .nx (List.replicate n none) []
 | [], _ => rfl
 | x :: xs, h => by
  obtain ⟨ρ1, e1, e2⟩ := h x List.mem_cons_self
  unfold forT
  rw [e1]
  dsimp only
  revert e2
  cases hb : b ρ1 [] with
  | nx ρ2 μ2 =>
   intro e2
   simp only [turnB, Bool.and_eq_true, decide_eq_true_eq] at e2
   obtain ⟨c1, c2, c3⟩ := e2
   have e3 : blank vs ρ2 = List.replicate n none := by
    have := blankB_eq c2
    rw [(blank_go (vs := vs) (ρ := ρ2) (i := 0)).1 |> fun z => (show (blank vs ρ2).length = ρ2.length from z), c3] at this
    exact this
   have hk : okCut ([] : Mu).length (blank vs ρ2) μ2 = true := by
    unfold okCut
    rw [closedEn_blank c2]
    exact c1
   dsimp only
   rw [if_pos hk, e3]
   exact forT_all fun y hy => h y (List.mem_cons_of_mem _ hy)
  | _ => intro e2; simp [turnB] at e2
end DL
/-! DL55: the laws' own digits (with addX, mulX); small things. -/
namespace DL
open PySem L2
def bDigX : FS := gif (tand (dtest (dvar 4)) (dtest (dbin gtD (dvar 3) (dc (.int 0))))) (gseq (gexpr (dbm "list" mAppend (dvar 6) (aCons (dbin modD (dvar 3) (dvar 8)) aNil)))
  (gasg (.nm 3) (dbin fdivD (dvar 3) (dvar 8)))) (gseq (gasg (.nm 5) (dbin modD (dbin powD (dbin addX (dvar 5) (dbin mulX (dc (.int 104729)) (dbin addX (dvar 7) (dc (.int 1))))) (dc (.int 2))) (dc (.int 2147483587))))
  (gexpr (dbm "list" mAppend (dvar 6) (aCons (dbin modD (dbin fdivD (dvar 5) (dc (.int 16))) (dvar 8)) aNil))))
def gDigX : FS := (gseq (gasg (.nm 3) (dcallB bAbs (aCons (dvar 0) aNil)))
  (gseq (gasg (.nm 4) (dbin geD (dvar 3) (dbin powD (dc (.int 10)) (dc (.int 18)))))
  (gseq (gasg (.nm 5) (dbin addX (dbin modD (dvar 3) (dc (.int 2147483647))) (dbin mulX (dc (.int 7919)) (dvar 1))))
  (gseq (gasg (.nm 6) (dcel aNil))
  (gseq (gfor (itE (aCons (dvar 2) aNil)) (.tp [(.nm 7), (.nm 8)]) bDigX)
  (gret (dfrz (dvar 6))))))))
structure DigIX (c t : Int) (ss : List Int) (μ : Mu) (k : Nat) (ρ : En) (μ' : Mu) : Prop where
 ex : ∃ (num seed : Int) (w : Bool) (a7 a8 : Option D) (ns : List Int), ρ = [some (.int c), some (.int t), some (.lst (ss.map .int)), some (.int num), some (.bl w), some (.int seed), some (.hdl μ.length), a7, a8] ∧ μ' = μ ++ [.lst (ns.map .int)] ∧ ns.length = k ∧
  (∀ (i : Nat) n s, ns[i]? = some n → ss[i]? = some s → 0 ≤ n ∧ n < s) ∧ 0 ≤ seed ∧ seed ≤ 2 ^ 40
theorem digX_step {c t : Int} {ss : List Int} {μ : Mu} (hs : ∀ s ∈ ss, 0 < s ∧ s < 1073741824) (hl : ss.length ≤ 1000) (i : Nat) (s : Int) (hi : ss[i]? = some s) (ρ : En) (μ' : Mu) (h : DigIX c t ss μ i ρ μ') :
  ∃ ρ1 ρ2 μ2, asg (.tp [(.nm 7), (.nm 8)]) (.tup [.int i, .int s]) ρ = some ρ1 ∧ bDigX ρ1 μ' = .nx ρ2 μ2 ∧ DigIX c t ss μ (i + 1) ρ2 μ2 := by
 obtain ⟨num, seed, w, a7, a8, ns, rfl, rfl, hn, hb, h0, h1⟩ := h.ex
 obtain ⟨s0, s1⟩ := hs s (List.mem_of_getElem? hi)
 have hil : i < 1000 := Nat.lt_of_lt_of_le (List.getElem?_eq_some_iff.mp hi).1 hl
 have nl : (ns.map D.int).length < 1000000 := by rw [List.length_map]; omega
 by_cases hw : w = true ∧ 0 < num
 ·obtain ⟨rfl, hw⟩ := hw
  refine ⟨[some (.int c), some (.int t), some (.lst (ss.map .int)), some (.int num), some (.bl true), some (.int seed), some (.hdl μ.length), some (.int i), some (.int s)], [some (.int c), some (.int t), some (.lst (ss.map .int)), some (.int (num / s)), some (.bl true), some (.int seed), some (.hdl μ.length), some (.int i), some (.int s)], μ ++ [.lst ((ns ++ [num % s]).map .int)], by simp, by simp [bDigX, hw, tyD, s0, s1, hn, show i < 1000000 by omega], ⟨num / s, seed, true, _, _, ns ++ [num % s], rfl, by simp, by simp [hn], fun j n s' e1 e2 => ?_, h0, h1⟩⟩
  rcases app_at e1 with e | ⟨rfl, rfl⟩
  ·exact hb j n s' e e2
  ·rw [hn] at e2
   rw [hi] at e2
   cases e2
   exact ⟨Int.emod_nonneg _ (by omega), Int.emod_lt_of_pos _ s0⟩
 ·have hw' : w = false ∨ ¬ 0 < num := by
   cases w
   ·exact .inl rfl
   ·exact .inr fun z => hw ⟨rfl, z⟩
  have m0 := Int.emod_nonneg ((seed + 104729 * (((i : Nat) : Int) + 1)) ^ 2) (b := 2147483587) (by omega)
  have m1 := Int.emod_lt_of_pos ((seed + 104729 * (((i : Nat) : Int) + 1)) ^ 2) (b := 2147483587) (by omega)
  have hp : (seed + 104729 * (((i : Nat) : Int) + 1)).natAbs < 18446744073709551616 := by omega
  refine ⟨[some (.int c), some (.int t), some (.lst (ss.map .int)), some (.int num), some (.bl w), some (.int seed), some (.hdl μ.length), some (.int i), some (.int s)], _, _, by simp, ?_, ⟨num, (seed + 104729 * (((i : Nat) : Int) + 1)) ^ 2 % 2147483587, w, some (.int i), some (.int s), ns ++ [(seed + 104729 * (((i : Nat) : Int) + 1)) ^ 2 % 2147483587 / 16 % s], rfl, rfl, by simp [hn], fun j n s' e1 e2 => ?_, m0, by omega⟩⟩
  ·rcases hw' with rfl | hw'
   ·simp [bDigX, tyD, s0, s1, hn, show i < 1000000 by omega, hp]
   ·cases w <;> simp [bDigX, hw', tyD, s0, s1, hn, show i < 1000000 by omega, hp]
  ·rcases app_at e1 with e | ⟨rfl, rfl⟩
   ·exact hb j n s' e e2
   ·rw [hn] at e2
    rw [hi] at e2
    cases e2
    exact ⟨Int.emod_nonneg _ (by omega), Int.emod_lt_of_pos _ s0⟩
theorem digX_ok (c t : Int) (ht : 0 ≤ t ∧ t ≤ 1000000) (ss : List Int) (hs : ∀ s ∈ ss, 0 < s ∧ s < 1073741824) (hl : ss.length ≤ 1000) (μ : Mu) (hμ : closedMu μ.length μ = true) :
  ∃ ns : List Int, ns.length = ss.length ∧ (∀ (i : Nat) n s, ns[i]? = some n → ss[i]? = some s → 0 ≤ n ∧ n < s) ∧ callF 9 gDigX [.int c, .int t, .lst (ss.map .int)] μ = .ok (.lst (ns.map .int)) μ := by
 have m0 := Int.emod_nonneg (if c < 0 then -c else c) (b := 2147483647) (by omega)
 have m1 := Int.emod_lt_of_pos (if c < 0 then -c else c) (b := 2147483647) (by omega)
 have run := for_enum (t := .tp [(.nm 7), (.nm 8)]) (b := bDigX) (xs := ss.map D.int) (k := 0) (DigIX c t ss μ) (ρ := [some (.int c), some (.int t), some (.lst (ss.map .int)), some (.int (if c < 0 then -c else c)), some (.bl (decide (10 ^ 18 ≤ (if c < 0 then -c else c)))), some (.int ((if c < 0 then -c else c) % 2147483647 + 7919 * t)), some (.hdl μ.length), none, none]) (μ := μ ++ [.lst []])
  (fun i x hx ρ μ' h => by
   rw [List.getElem?_map] at hx
   cases hq : ss[i]? with
   | none => rw [hq] at hx; cases hx
   | some s =>
    rw [hq] at hx
    cases hx
    rw [Nat.zero_add] at h ⊢
    exact digX_step hs hl i s hq ρ μ' h)
  ⟨_, _, _, _, _, [], rfl, rfl, rfl, fun i n s e _ => (by simp at e), by omega, by omega⟩
 obtain ⟨ρ', μ', e, h⟩ := run
 obtain ⟨num, seed, w, a7, a8, ns, rfl, rfl, hn, hb, _, _⟩ := h.ex
 rw [List.length_map, Nat.zero_add] at hn
 refine ⟨ns, hn, hb, ?_⟩
 have body : gDigX (startD 9 [.int c, .int t, .lst (ss.map .int)]) μ = .rt (.lst (ns.map .int)) (μ ++ [.gone]) := by
  simp [gDigX, startD]
  simp at e
  rw [e]
  simp [show ns.length ≤ 1000000 by omega]
 rw [callF_eq _ _ _ _ _ _ body]
 exact trunc_app (by simp [D.closed, closed_ints]) hμ
end DL
/-! DL56: a law that goes through its script's cells by digits, each turn by itself. -/
namespace DL
open PySem L2
theorem enum_mem {xs : List D} {x : D} {k : Int} (h : x ∈ enumD k xs) : ∃ (i : Nat) (y : D), i < xs.length ∧ xs[i]? = some y ∧ x = .tup [.int (k + i), y] := by
 obtain ⟨i, hi⟩ := List.getElem?_of_mem h
 have hl := (List.getElem?_eq_some_iff.mp hi).1
 rw [enumD_len] at hl
 have e := enumD_get k xs i xs[i] (List.getElem?_eq_getElem hl)
 rw [hi] at e
 exact ⟨i, xs[i], hl, List.getElem?_eq_getElem hl, Option.some.inj e⟩
theorem turn_law {body : FS} {n : Nat} {al : List Nat} {k : Int} {sc : D}
  (hb : blank al (startD n [sc]) = List.replicate n none) (ha : ∀ a b, asg (.tp [.nm 1, .nm 2]) (.tup [a, b]) (List.replicate n none) = some (none :: some a :: some b :: List.replicate (n - 3) none))
  (hv : startD n [sc] = some sc :: List.replicate (n - 1) none)
  (ht : ∀ (i : Nat) (c : Int), i < 100 → turnB al n (body (none :: some (.int i) :: some (.int c) :: List.replicate (n - 3) none) []) = true) (ns : List Int) (hns : ns.length ≤ 63) (hs : sc = .lst (ns.map D.int)) :
  ∃ μ', callF n (gseq (gforT (itE (aCons (dsl (dbin addX (dvar 0) (dlst (aCons (dc (.int 1)) aNil))) onone (osome (dc (.int k)))) aNil)) (.tp [.nm 1, .nm 2]) body al) (gret (dc (.bl true)))) [sc] [] = .ok (.bl true) μ' := by
 obtain ⟨cs, hc⟩ : ∃ cs : List Int, DL.cutD ((ns ++ [1]).map D.int) none (some k) = cs.map D.int := ⟨_, by unfold DL.cutD; rw [← List.map_drop, ← List.map_take]⟩
 have hcl : cs.length ≤ 64 := by
  have := cutD_len ((ns ++ [1]).map D.int) none (some k)
  rw [hc] at this
  simp at this
  omega
 have e0 : DL.cutD (ns.map D.int ++ [D.int 1]) none (some k) = cs.map D.int := by
  rw [← hc]
  simp
 have run : forT (.tp [.nm 1, .nm 2]) body al (enumD 0 (cs.map D.int)) (List.replicate n none) [] = .nx (List.replicate n none) [] := by
  refine forT_all fun x hx => ?_
  obtain ⟨i, y, hi, hy, rfl⟩ := enum_mem hx
  rw [List.getElem?_map] at hy
  cases hq : cs[i]? with
  | none => rw [hq] at hy; cases hy
  | some c =>
   rw [hq] at hy
   cases hy
   refine ⟨_, ha _ _, ?_⟩
   rw [Int.zero_add]
   exact ht i c (by rw [List.length_map] at hi; omega)
 have it : itE (aCons (dsl (dbin addX (dvar 0) (dlst (aCons (dc (.int 1)) aNil))) onone (osome (dc (.int k)))) aNil) (startD n [sc]) [] = .ok (enumD 0 (cs.map D.int)) [] := by
  rw [hv, hs]
  simp [slD, show ns.length + 1 ≤ 1000000 by omega, e0]
 have go : gforT (itE (aCons (dsl (dbin addX (dvar 0) (dlst (aCons (dc (.int 1)) aNil))) onone (osome (dc (.int k)))) aNil)) (.tp [.nm 1, .nm 2]) body al (startD n [sc]) [] = .nx (List.replicate n none) [] := by
  unfold gforT
  rw [it, R.to_ok, hb]
  exact run
 have all : (gseq (gforT (itE (aCons (dsl (dbin addX (dvar 0) (dlst (aCons (dc (.int 1)) aNil))) onone (osome (dc (.int k)))) aNil)) (.tp [.nm 1, .nm 2]) body al) (gret (dc (.bl true)))) (startD n [sc]) [] = .rt (.bl true) [] := by
  rw [ap_seq, go]
  simp
 rw [callF_eq _ _ _ _ _ _ all]
 exact ⟨_, by simp [trunc, closedMu, D.closed]; rfl⟩
end DL
/-! DL60: len({e for x in xs}), e a text. -/
namespace DL
open PySem PySem.Spec PyProof.Rows L2
theorem strsD_map : ∀ ss : List Str, strsD (ss.map D.str) = some ss
 | [] => rfl
 | s :: ss => by
  show (strsD (ss.map D.str)).map (s :: ·) = _
  rw [strsD_map ss]
  rfl
end DL
/-! DL61: xs.extend(ys), xs.pop(), xs[::-1], tuple(range(n)). -/
namespace DL
open PySem PySem.Spec PyProof.Rows L2
section
variable {X : Cx} {E : WX}
/-- xs.extend(ys) -/
def mExtend : D → List D → Mu → R D := fun x ds μ => match x, ds with
 | .hdl l, [d] => match μ[l]? with
  | some (.lst xs) => match d with
   | .lst ys => if xs.length + ys.length ≤ 1000000 then .ok .non (μ.set l (.lst (xs ++ ys))) else .bad
   | _ => .bad
  | _ => .bad
 | _, _ => .bad
theorem mx_extend : MtX X E "list.extend" mExtend := by
 intro pins s σ H x vs v us Q I rx rv q
 obtain ⟨_, W, μ, d, ds, ok, r1, r2, p⟩ := q
 unfold mExtend at p
 split at p
 ·rename_i l dd
  split at p
  ·rename_i ys hm
   split at p
   ·rename_i zs
    split at p
    ·rename_i hn
     cases r1 with
     | @hdl a _ ha =>
      cases rx
      cases r2 with
      | cons r2 r3 =>
       cases r3
       cases r2 with
       | @lst b ws _ z h1 q2 =>
        cases rv with
        | cons w1 w2 =>
         cases w1
         cases w2
         obtain ⟨o, ho, vs, rfl, q⟩ := ok.cell l a _ ha hm
         obtain ⟨_, its, n, rr, hl, e⟩ := I.lstM ho
         obtain ⟨its2, n2, rr2, e2⟩ := (same_lq ok.sub h1).isL I
         have k1 := rr.length
         have k2 := q.length
         have k3 := rr2.length
         have k4 := q2.length
         have big : its.toArray.size + its2.toArray.size ≤ sizeLine := by
          rw [List.size_toArray, List.size_toArray]
          have := le_line hn
          omega
         have nl : ¬ (!its.toArray.isEmpty && Builtin.List.listTooLong (its.toArray.size + its2.toArray.size)) = true := by
          rw [notLongL big, Bool.and_false]
          decide
         obtain ⟨ok2, g2⟩ := ok.setcell (m' := .lst (ys ++ zs)) ha hm (fun z => nomatch z) ⟨vs ++ ws, rfl, q.app q2⟩
         refine call_meets F.slot_list_extend ⟨_, e, rfl⟩ F.entry_list_extend (F.args_list_extend_2 _ _) (AutoSeq1.list_extend_list_list_0 a its.toArray n b its2.toArray n2 nl (by rw [List.size_toArray] at big ⊢; omega) (by omega)) ⟨e, e2, ?_⟩
         exact ⟨.non, _, I.lset (its' := its ++ its2) ho e (by simp) (rr.append rr2) (by rw [List.length_append]; rw [List.size_toArray, List.size_toArray] at big; omega), rfl, p _ _ _ g2 ok2 .non⟩
    ·exact p.elim
   ·exact p.elim
  ·exact p.elim
 ·exact p.elim
end
end DL
/-! DL62: lists that are changed later: comprehensions, list(..); list(d), list(d.values()). -/
namespace DL
open PySem PySem.Spec PyProof.Rows L2
def dlcC (fi : FA) (vs : List Nat) (t : Tg) (ft : FT) (fe : FE) : FE := fun ρ μ => (fi ρ μ).bind fun xs μ1 => (lcD t ft fe (wipeD ρ vs) xs μ1).bind fun ys μ2 => .ok (.hdl μ2.length) (μ2 ++ [.lst ys])
section
variable {X : Cx} {E : WX} {pos : Pos}
theorem tLcC_of {fi : FA} {vs : List Nat} {t : Tg} {ft : FT} {fe : FE} (hsub : ∀ i ∈ t.slots, i ∈ vs) : ∀ σ H Q, rE X.K E (dlcC fi vs t ft fe) σ H Q → tLc (rI X.K E fi) (rG X.K t) (rT X.K E0 ft) (rE X.K E0 fe) vs σ H Q := fun σ H Q ⟨W, ρ, μ, ok, en, p⟩ => by
 refine ⟨W, ρ, μ, ok, en, ?_⟩
 unfold dlcC at p
 revert p
 cases fi ρ μ with
 | ex c fs μ1 => exact fun p => p
 | bad => exact fun p => p
 | ok xs μ1 =>
  rw [R.bind_ok]
  intro p W1 J H1 g1 o1 wk Dn hD
  have hz := wk.len
  have en1 := (en.mono g1.le).wipe vs
  refine ⟨fun i m H2 => m = xs.length - i ∧ i ≤ xs.length ∧ ∃ W2 μ2 acc ds, Go W1 H1 W2 H2 ∧ Ok X.K W2 H2 μ2 ∧ H2 Dn = some (.lst acc) ∧ Dn ∉ W2.io ∧ W2.S Dn = none ∧ Reps X.K W2 acc ds ∧ acc.length ≤ i ∧ postE X.K (WE E σ) W1 H1 ((lcD t ft fe (wipeD ρ vs) (xs.drop i) μ2).bind fun ys μ3 => .ok (.hdl μ3.length) (μ3 ++ [.lst (ds ++ ys)])) Q,
   ⟨xs.length, by simp, Nat.zero_le _, W1, μ1, [], [], (Go.refl _ _).other hD, o1.other (o1.snone hD) (o1.notio hD) (.inl hD), upd_same, o1.notio hD, o1.snone hD, .nil, Nat.le_refl _, ?_⟩, ?_⟩
  ·exact post.mono g1 p
  rintro i m H2 ⟨rfl, hi, W2, μ2, acc, ds, g2, o2, hacc, n2, s2, r2, l2, p2⟩
  have sm : Same W1.S H2 := g2.le.s.trans o2.sub
  by_cases hlt : i < xs.length
  ·rw [List.drop_eq_getElem_cons hlt] at p2
   unfold lcD at p2
   refine .inr ⟨wk.go H2 i sm hlt, fun H3 => ∃ W3 μ3 acc ds, Go W1 H1 W3 H3 ∧ Ok X.K W3 H3 μ3 ∧ H3 Dn = some (.lst acc) ∧ Dn ∉ W3.io ∧ W3.S Dn = none ∧ Reps X.K W3 acc ds ∧ acc.length ≤ i + 1 ∧ postE X.K (WE E σ) W1 H1 ((lcD t ft fe (wipeD ρ vs) (xs.drop (i + 1)) μ3).bind fun ys μ3 => .ok (.hdl μ3.length) (μ3 ++ [.lst (ds ++ ys)])) Q,
    fun H3 ⟨W3, μ3, acc, ds, q⟩ => ⟨xs.length - (i + 1), by omega, rfl, hlt, W3, μ3, acc, ds, q⟩, fun x H3 y => ?_⟩
   obtain ⟨W3, g3, o3, r3⟩ := wk.yld H2 i x H3 sm y xs[i] (List.getElem?_eq_getElem hlt) W2 μ2 g2.le o2
   obtain ⟨a3, s3, n3⟩ := g3.out hacc s2 n2
   revert p2
   cases e : asg t xs[i] (wipeD ρ vs) with
   | none => exact fun p => p.elim
   | some ρ3 =>
    dsimp only
    intro p2
    refine ⟨W3, wipeD ρ vs, ρ3, xs[i], μ2, o3, en1.mono (g2.le.trans g3.le), r3, e, fun σ4 en4 b4 => ⟨wipe_but hsub b4, ?_⟩⟩
    refine ⟨W3, ρ3, μ2, o3, en4, ?_⟩
    revert p2
    cases ft ρ3 μ2 with
    | ex c fs μ4 => exact fun p => p.elim
    | bad => exact fun p => p.elim
    | ok b μ4 =>
     rw [R.nox_ok, R.bind_ok]
     intro p2 W4 H4 g4 o4
     obtain ⟨a4, s4, n4⟩ := g4.out a3 s3 n3
     cases b with
     | false =>
      rw [if_neg Bool.false_ne_true] at p2 ⊢
      exact ⟨W4, μ4, acc, ds, (g2.trans g3).trans g4, o4, a4, n4, s4, r2.mono (g3.le.trans g4.le), by omega, p2⟩
     | true =>
      rw [if_pos rfl] at p2 ⊢
      refine ⟨W4, ρ3, μ4, o4, en4.mono g4.le, ?_⟩
      revert p2
      cases fe ρ3 μ4 with
      | ex c fs μ5 => exact fun p => p.elim
      | bad => exact fun p => p.elim
      | ok yd μ5 =>
       rw [R.nox_ok, R.bind_ok]
       intro p2 W5 yv H5 g5 o5 r5
       obtain ⟨a5, s5, n5⟩ := g5.out a4 s4 n4
       refine ⟨acc, a5, by omega, W5, μ5, acc ++ [yv], ds ++ [yd], (((g2.trans g3).trans g4).trans g5).other hD, o5.other s5 n5 (.inr ⟨_, a5, (fun _ z => nomatch z), (fun _ z => nomatch z)⟩), upd_same, n5, s5, (r2.mono ((g3.le.trans g4.le).trans g5.le)).app (.cons r5 .nil), by simp; omega, ?_⟩
       revert p2
       cases lcD t ft fe (wipeD ρ vs) (xs.drop (i + 1)) μ5 with
       | ex c fs μ6 => exact fun p => p
       | bad => exact fun p => p
       | ok ys μ6 =>
        rw [R.bind_ok, R.bind_ok, R.bind_ok, List.append_assoc]
        exact fun p => p
  ·have ei : i = xs.length := by omega
   subst ei
   rw [List.drop_length] at p2
   unfold lcD at p2
   rw [R.bind_ok, List.append_nil] at p2
   refine .inl ⟨wk.stop H2 _ sm (Nat.le_refl _), ?_⟩
   have ok3 := okAdopt (m := .lst ds) o2 hacc s2 n2 ⟨acc, rfl, r2⟩
   refine p2 (W2.cell Dn) (.ref Dn) H2 ⟨g2.le.trans ⟨Same.refl _, List.prefix_append _ _⟩, g2.kept, g2.grow, fun a e => ?_, g2.newS⟩ ok3 (.hdl ?_)
   ·have e : a ∈ W2.io ++ [Dn] := e
    rcases List.mem_append.mp e with e | e
    ·exact g2.newio a e
    ·have e : a = Dn := by simpa using e
     rw [e]; exact .inr hD
   ·show (W2.io ++ [Dn])[μ2.length]? = some Dn
    rw [← o2.len]
    simp
theorem ds_setLcC (i : Nat) {y : Str} {py spos : Pos} {elt tg iter : Expr} {ifs : List Expr} {scope : Scope} {fi : FA} {t : Tg} {ft : FT} {fe : FE} (own : List (Str × Nat)) (hc : X.calm = true) (hN : X.N.Nodup) (hi : DI X E tg iter fi) (ok : BlkOk X.N X.env.scope scope own)
  (hg : ∀ (s : Shared) (H : Hp) (C : Addr) (cl : List (Str × Addr)) (fp : List Addr), DG (X.blk s H scope (compEnvC scope cl C X.env) fp) tg t) (ht : ∀ (s : Shared) (H : Hp) (C : Addr) (cl : List (Str × Addr)) (fp : List Addr), DTs (X.blk s H scope (compEnvC scope cl C X.env) fp) ifs ft)
  (he : ∀ (s : Shared) (H : Hp) (C : Addr) (cl : List (Str × Addr)) (fp : List Addr), DE (X.blk s H scope (compEnvC scope cl C X.env) fp) E0 elt fe) (hsub : ∀ i ∈ t.slots, i ∈ own.map (·.2) := by decide) (hy : X.N[i]? = some y := by rfl) (hyl : X.env.scope.names.lookup y = some .local := by rfl)
  (hsw : swapsWith (.ListComp elt [⟨tg, iter, ifs, 0⟩] scope pos) (some (.Name y py)) spos.line X.env = pure true := by exact sw_true rfl rfl rfl (by decide +kernel)) (hs : ∀ x, foldedSetIterable iter X.env x = pure x := by intro _; rfl) :
  DS X E (.Assign [.Name y py] (.ListComp elt [⟨tg, iter, ifs, 0⟩] scope pos) spos) (gasg (.nm i) (dlcC fi (own.map (·.2)) t ft fe)) := by
 refine ps_imp (ps_setLc (te := rE X.K E0 fe) (g := rG X.K t) (tt := rT X.K E0 ft) hc hN hy hyl hsw hi ok hg ht he hs) fun Z σ H ⟨W, ρ, μ, ok, en, p⟩ => ?_
 refine tLcC_of (X := X) (E := E) hsub σ H _ (seqS p ok en fun d μ1 W1 v H1 g1 o1 en1 r p1 => ?_)
 rw [asg_nm] at p1
 exact p1 W1 _ H1 (Go.refl _ _) o1 (en1.set r i)
end

end DL
/-! DL63: more in suites; defs that make functions. -/
namespace DL
open PySem PySem.Spec PyProof.Rows L2
section
variable {P : Program} {w : World} {K : PySem.W.Frag} {mg : Str → Option Value} {base : Heap}
/-- a def whose code object is known -/
theorem FunD.gc {x qual : Str} {params : Arguments} {body : List Stmt} {scope : Scope} {dvs : List V} {kws : List (Str × V)} {f : Addr} {fd : FuncData} {N ps : List Str} {k : Nat} {g : FS} {pp : Str × Option Str} (F : FunD K x qual params body scope dvs kws f fd) (hf : f = He.fAd K pp) (sc : FnScope N ps scope)
  (hb : ∀ (A : Around) (outer : List Env) (s : Shared) (H : Hp) (E : XK), Cal (cxOf (L2.CX P w) P w K mg base N qual scope f (.ref (He.cT K pp).1) A outer s H E) (lift E) k → DSs (cxOf (L2.CX P w) P w K mg base N qual scope f (.ref (He.cT K pp).1) A outer s H E) (lift E) body g) :
  FnG P w K mg base (k + 1) f fd ps (callF N.length g) := by
 obtain ⟨oc, od, dV, kV, doc, pm, an, cdv, ct, osl, rfl, lk, hcd, _, _⟩ := F.ex
 have e : cdv = .ref (He.cT K pp).1 := by
  rw [hf] at lk
  cases cdv with
  | ref c =>
   have : He.codeOf K pp = c := by
    unfold He.codeOf
    rw [lk]
   show _ = Value.ref (He.codeOf K pp)
   rw [this]
  | _ => simp [PySem.W.codeIn] at hcd
 subst e
 exact fn_body lk hcd sc hb
end
end DL
/-! DL64: a changed list settled where a statement begins; != of lists of instances with an own __eq__. -/
namespace DL
open PySem L2 PySem.Spec PyProof.Rows
open PySem.SeqAt
open AutoSeq1 (wpAny_loadPart')
open MeetsSeq MeetsSeq2 MeetsSeq3 SeqRoads2
/-! ### settled ahead of a statement -/
def frz (i : Nat) (ρ : En) (μ : Mu) : Option (Nat × List D) := match ρ[i]? with
 | some (some (.hdl l)) => match μ[l]? with
  | some (.lst xs) => if xs.length ≤ 1000000 then some (l, xs) else none
  | _ => none
 | _ => none
end DL
/-! DL65: enumerate over a text. -/
namespace DL
open PySem L2 PySem.Spec PyProof.Rows
/-- signs with their places, each pair new -/
def Ites (x : Str) : It :=
 ⟨fun i _ => i < x.cps.size, fun i H v H' => ∃ T c, v = .ref T ∧ H T = none ∧ H' = upd H T (.tup [.int (i : Nat), .str ⟨#[c]⟩]) ∧ x.cps[i]? = some c, fun i _ => x.cps.size ≤ i⟩
theorem turn_enumS {P : Program} {w : World} {K : PySem.W.Frag} {elts : List Expr} {kk : Nat} {tpos : Pos} (x : Str) (t : Tok) (e it : Addr) :
  Turn P w K (.Tuple elts kk tpos) (Ites x) [e, it] e (fun i h => i ≤ x.cps.size ∧ (∃ old, IsEnum h e it ((i : Nat) : Int) old) ∧ h.IsStrIter it (strIterType x) x t i ∧ e ≠ it) where
 mem := by simp
 obj := fun i h st b hb => by
  obtain ⟨_, ⟨old, he⟩, ⟨o, ho, hc, hd⟩, _⟩ := st
  have q : b = e ∨ b = it := by simpa using hb
  rcases q with z | z
  ·rw [z]
   exact ⟨_, he, fun v q => nomatch q⟩
  ·rw [z]
   exact ⟨o, ho, fun v q => by rw [hd] at q; cases q⟩
 keep := fun i h h' st k => by
  obtain ⟨hi, ⟨old, he⟩, ⟨o, ho, r⟩, hne⟩ := st
  exact ⟨hi, ⟨old, k e (by simp) _ he⟩, ⟨o, k it (by simp) o ho, r⟩, hne⟩
 item := by
  intro X hP hw hK hc i pins s σ H E I hf st hg
  subst hP hw hK
  obtain ⟨hi, ⟨old, he⟩, hit, hne⟩ := st
  have lt : i < x.cps.size := hg
  have hel : e < s.heap.objs.size := Heap.lt_size he
  have hil : it < s.heap.objs.size := by
   obtain ⟨_, q, _⟩ := hit
   exact Heap.lt_size q
  refine wpAny_pyNext_enum_itemD (Draws.text (A := X.A.in1) (I.ok.hd hc) it x t) he hit lt hne (by simpa using hne) fun u h' tk hu ho hit' hT hsz hk => ?_
  obtain ⟨c, tu, hcx, rfl⟩ := hu
  refine ⟨_, rfl, wpAny_letOwnedTupleGo_enum (s := { s with heap := h', toks := tk + 1 }) ho fun h'' he' sb => ?_⟩
  have hT2 : h''.get? s.heap.objs.size = some { cls := .type "tuple", data := .seq #[.int i tk, .str ⟨#[c]⟩ tu] } := (sb.2 _ (Nat.ne_of_gt hel)).trans hT
  have new : ObjOk X.prog X.w (upd H s.heap.objs.size (.tup [.int (i : Nat), .str ⟨#[c]⟩])) h'' s.heap.objs.size (.tup [.int (i : Nat), .str ⟨#[c]⟩]) :=
   ⟨by show 2 ≤ sizeLine; decide, [.int i tk, .str ⟨#[c]⟩ tu], .cons ⟨_, rfl⟩ (.cons ⟨_, rfl⟩ .nil), ⟨_, hT2, rfl, _, rfl⟩⟩
  have I1 : Inv X pins σ (upd H s.heap.objs.size (.tup [.int (i : Nat), .str ⟨#[c]⟩])) { s with heap := h'', toks := tk + 1 } :=
   I.turnedNew (ch := [e, it]) (fun b ob hb q => (sb.2 b (fun z => hb (by simp [z]))).trans (hk b ob (fun z => hb (by simp [z])) (fun z => hb (by simp [z])) q)) hf (Nat.le_refl _) new
  refine ⟨.ref s.heap.objs.size, _, I1, rfl, ⟨_, c, rfl, I.hok.fresh (Nat.le_refl _), rfl, hcx⟩, ⟨lt, ⟨.str ⟨#[c]⟩ tu, ?_⟩, ?_, hne⟩, fun b hb => ?_⟩
  ·have e1 : ((i + 1 : Nat) : Int) = (i : Int) + 1 := by omega
   rw [e1]
   exact he'
  ·obtain ⟨o, ho2, r⟩ := hit'
   exact ⟨o, (sb.2 it (Ne.symm hne)).trans ho2, r⟩
  ·have hb' : b < s.heap.objs.size := by
    have q : b = e ∨ b = it := by simpa using hb
    rcases q with z | z
    ·rw [z]; exact hel
    ·rw [z]; exact hil
   rw [upd_ne (Nat.ne_of_lt hb')]
   exact (hf b hb).1
 done := by
  intro X hP hw hK hc i pins s σ H E I hf st hg
  subst hP hw hK
  obtain ⟨hi, ⟨old, he⟩, hit, hne⟩ := st
  have ge : x.cps.size ≤ i := hg
  have ei : i = x.cps.size := Nat.le_antisymm hi ge
  subst ei
  obtain ⟨f0, f1, f2, f3, f4, f5⟩ := hf it (by simp)
  exact wpAny_pyNext_enum_endD (Draws.text (A := X.A.in1) (I.ok.hd hc) it x t) he hit fun h' eb => ⟨rfl, I.turned (t' := s.toks) (fun b o hb q => eb b o hb q) f0 f1 f3 f4 f5⟩
 self := fun A i s Q E st h => let ⟨_, ⟨_, he⟩, _⟩ := st; wpAny_pyIter_enum he h
def iEnumS (ta : TA) : TI := fun σ H R => ta σ H fun vs H1 => ∃ x, vs = [.str x] ∧ R (Ites x) H1
theorem pi_enumS {X : Cx} {e : Expr} {ta : TA} {p pos tpos : Pos} {elts : List Expr} {kk : Nat} (hg : Gl X "enumerate") (hm : X.mg "enumerate" = none) (ha : PA X [e] ta) (hs : starEach [e] X.env = [(false, eval e X.env)] := by rfl) :
  PI X (.Tuple elts kk tpos) (.Call (.Name "enumerate" p) [e] [] pos) (iEnumS ta) := by
 refine ⟨fun pins s σ H R I h => ?_⟩
 refine Call_ (ld_blt I hg hm boot_enumerate (PyProof.Rows.callWith_type1 (thn (ha.run pos pins s σ H _ I h) fun us s1 ⟨vs, H1, I1, r1, q1⟩ => ?_) hs rfl))
 obtain ⟨x, ex, q⟩ := q1
 subst ex
 obtain ⟨u, rfl, t, rfl⟩ := r1.one
 refine call_enumerate_str fun h' he hit hsz hk => wpAny_pyIter_enum he ?_
 have I2 : Inv X pins σ H1 { s1 with heap := h' } := I1.kept (t' := s1.toks) hk
 refine ⟨s1.heap.objs.size + 1, [s1.heap.objs.size + 1, s1.heap.objs.size], _, _, H1, rfl, I2, turn_enumS x t (s1.heap.objs.size + 1) s1.heap.objs.size, ⟨Nat.zero_le _, ⟨.none, he⟩, hit, Nat.succ_ne_self _⟩, fun b hb => ?_, q⟩
 have e' : b = s1.heap.objs.size + 1 ∨ b = s1.heap.objs.size := by simpa using hb
 have hle : s1.heap.objs.size ≤ b := by
  rcases e' with z | z
  ·rw [z]; exact Nat.le_add_right _ _
  ·rw [z]; exact Nat.le_refl _
 exact I1.fpOk hle (I1.hok.fresh hle)
theorem walk_enumS {K : PySem.W.Frag} {W : Wd} (x : Str) (z : x.length ≤ sizeLine) : Walk K W (Ites x) (enumD 0 (signs x)) := by
 have hz : (signs x).length = x.cps.size := by simp [signs]
 refine ⟨by rw [enumD_len, hz]; exact z, fun H i s hi => by rw [enumD_len, hz] at hi; exact hi, fun H i s hi => by rw [enumD_len, hz] at hi; exact hi, fun H i v H' s y d e W1 μ l1 ok => ?_⟩
 obtain ⟨T, c, rfl, hT, rfl, hc⟩ := y
 have e2 : (signs x)[i]? = some (.str ⟨#[c]⟩) := by
  unfold signs
  rw [List.getElem?_map, Array.getElem?_toList, hc]
  rfl
 rw [enumD_get 0 (signs x) i _ e2] at e
 cases e
 refine ⟨W1.new T (.tup [.int i, .str ⟨#[c]⟩]), Go.new ok hT, ok.new hT, rep_tup ok hT (by show 2 ≤ sizeLine; decide) (.cons ?_ (.cons (.str _ (by show 1 ≤ sizeLine; decide)) .nil))⟩
 have : (0 : Int) + i = i := by omega
 rw [this]
 exact .int _
end DL
/-! DL66: a changed list != []. -/
namespace DL
open PySem L2 PySem.Spec PyProof.Rows
open PySem.SeqAt
def lstAt (μ : Mu) : D → Option (List D)
 | .hdl l => match μ[l]? with
  | some (.lst xs) => some xs
  | _ => none
 | _ => none
def neNil : D → D → Mu → R D := fun x y μ => match lstAt μ x, y with
 | some xs, .lst [] => .ok (.bl (!xs.isEmpty)) μ
 | _, _ => .bad
def dNeC : D → D → Mu → R D := fun x y μ => if (lstAt μ x).isSome = true then neNil x y μ else dNeM x y μ
section
variable {X : Cx} {E : WX}
theorem opx_neNil (hu : X.A.units + 64 < cLine) : OpX X E (compareOp .NotEq) neNil := by
 intro pins s σ H x y v u Q I rx ry q
 obtain ⟨E', W, μ, dx, dy, ok, r1, r2, p⟩ := q
 unfold neNil at p
 split at p
 ·rename_i xs e1
  unfold lstAt at e1
  split at e1
  ·rename_i l
   split at e1
   ·rename_i ys e2
    cases e1
    cases r1 with
    | @hdl a _ ha =>
     cases r2 with
     | @lst b us _ z2 h2 q2 =>
      cases q2
      cases rx
      cases ry
      obtain ⟨o, ho, vs, rfl, rs⟩ := ok.cell _ a _ ha e2
      obtain ⟨its, v1, ht, _⟩ := I.list (show SqL X.K H a vs from .inl (.inl ho))
      obtain ⟨its', v2, ht', _⟩ := I.list (same_lq ok.sub h2).sq
      have n2 : its' = [] := by cases v2; rfl
      subst n2
      have fin : EP X pins σ Q (.bool (!xs.isEmpty)) s := ⟨.bl (!xs.isEmpty), H, I, rfl, p W _ H (Go.refl _ _) ok (.bl _)⟩
      show wpAny _ _ (richCompare .NotEq (.ref a) (.ref b)) _ _ _
      have hl : its.length = xs.length := by rw [← v1.length, rs.length]
      cases xs with
      | nil =>
       refine rcNe_lists (f := fun _ => true) ht.isList ht'.isList ?_ (by omega) ?_ ?_
       ·simpa using hl
       ·intro j h1 h2
        simp at h2
       ·simpa [hl] using fin
      | cons d ds =>
       refine rcNe_len ht.isList ht'.isList ?_ (by omega) (by simpa using fin)
       have : its ≠ [] := fun e => by rw [e] at hl; simp at hl
       simpa using this
   ·cases e1
  ·cases e1
 ·exact p.elim
theorem opx_neC (hu : X.A.units + 64 < cLine) : OpX X E (compareOp .NotEq) dNeC := opx_if (fun x _ μ => (lstAt μ x).isSome) (opx_neNil hu) (opx_neM hu)
end
end DL
/-! DL69: enumerate over a tuple. -/
namespace DL
open PySem L2 PySem.Spec PyProof.Rows
theorem enumNew {v : Value} {ob : Obj} {P : Heap → Prop} (B : Begins v ob P) :
  Meets (Builtin.«enumerate.__new__» ⟨[.type "enumerate", v], []⟩) (fun _ R s => P s.heap ∧
   R (.ok (.ret (.ref (s.heap.push ob).objs.size))) { s with heap := (s.heap.push ob).push { cls := .type "enumerate", data := .fields #[.none, .bool false, .ref s.heap.objs.size, rawInt 0, .none, .none] } }) :=
 .of_wp fun prog w A R s z => by
  obtain ⟨hp, g, d, tk, os⟩ := s
  obtain ⟨z1, z⟩ := z
  have hsub := sub_enumerate
  have it : ∀ {A' : Around} {E : Value → Shared → Prop} {Q : Value → Shared → Prop}, Q (.ref hp.objs.size) ⟨hp.push ob, g, d, tk, os⟩ → wpAny (model prog w) A' (pyIter v) Q E ⟨hp, g, d, tk, os⟩ := fun q => B.iter prog w _ _ ⟨hp, g, d, tk, os⟩ _ z1 q
  wp_walk using it
  refine wpAny_stack_any fun st => wpAny_pure ?_
  split
  ·rename_i c _ _ _ _ _
   cases (c == Value.type "enumerate")
   ·wp_walk using it
    exact ⟨_, rfl, z⟩
   ·wp_walk using it
    exact ⟨_, rfl, z⟩
  ·wp_walk using it
   exact ⟨_, rfl, z⟩
theorem call_enumB {prog : Program} {w : World} {A : Around} {E : Value → Shared → Prop} {s : Shared} {v : Value} {ob : Obj} {P : Heap → Prop} {Q : Value → Shared → Prop} (B : Begins v ob P) (z1 : P s.heap)
  (z : ∀ h', IsEnum h' (s.heap.objs.size + 1) s.heap.objs.size 0 .none → h'.get? s.heap.objs.size = some ob → h'.objs.size = s.heap.objs.size + 2 → (∀ b o, s.heap.get? b = some o → h'.get? b = some o) → Q (.ref (s.heap.objs.size + 1)) { s with heap := h' }) :
  wpAny (model prog w) A (call (.type "enumerate") [v]) Q E s := by
 refine callType_new F.called_enumerate (by decide) (F.typeCall_enumerate_1 _) (F.newCall_enumerate_1 _) (fun obj => F.args_object_init_2 obj _) F.entry_enumerate_new (enumNew B) ⟨z1, ?_⟩
 have hz : (s.heap.push ob).objs.size = s.heap.objs.size + 1 := Heap.size_push ..
 show _ ∧ _
 rw [hz]
 have he : IsEnum ((s.heap.push ob).push { cls := .type "enumerate", data := .fields #[.none, .bool false, .ref s.heap.objs.size, rawInt 0, .none, .none] }) (s.heap.objs.size + 1) s.heap.objs.size 0 .none := by
  have q := Heap.get?_push_size (s.heap.push ob) (o := { cls := .type "enumerate", data := .fields #[.none, .bool false, .ref s.heap.objs.size, rawInt 0, .none, .none] }) rfl
  rw [hz] at q
  exact q
 exact ⟨⟨_, he, rfl⟩, z _ he (Heap.get?_push_of_some _ (Heap.get?_push_size _ B.free)) (by rw [Heap.size_push, hz]) fun b o x => Heap.get?_push_of_some _ (Heap.get?_push_of_some _ x)⟩
/-- a tuple's items with their places, each pair new -/
def Itet (K : PySem.W.Frag) (a : Addr) (n : Nat) : It :=
 ⟨fun i H => ∃ (xs : List V) (x : V), SqT K H a xs ∧ xs.length = n ∧ xs[i]? = some x, fun i H v H' => ∃ T x, v = .ref T ∧ H T = none ∧ H' = upd H T (.tup [.int (i : Nat), x]) ∧ ∀ xs, SqT K H a xs → xs[i]? = some x, fun i H => ∃ xs : List V, SqT K H a xs ∧ xs.length = n ∧ n ≤ i⟩
theorem turn_enumT {P : Program} {w : World} {K : PySem.W.Frag} {elts : List Expr} {kk : Nat} {tpos : Pos} (a e it : Addr) (n : Nat) :
  Turn P w K (.Tuple elts kk tpos) (Itet K a n) [e, it] e (fun i h => i ≤ n ∧ (∃ old, IsEnum h e it ((i : Nat) : Int) old) ∧ h.IsTupleIter it a i ∧ e ≠ it ∧ a ≠ it ∧ a ≠ e) where
 mem := by simp
 obj := fun i h st b hb => by
  obtain ⟨_, ⟨old, he⟩, ⟨o, ho, hc, hd⟩, _⟩ := st
  have q : b = e ∨ b = it := by simpa using hb
  rcases q with z | z
  ·rw [z]
   exact ⟨_, he, fun v q => nomatch q⟩
  ·rw [z]
   exact ⟨o, ho, fun v q => by rw [hd] at q; cases q⟩
 keep := fun i h h' st k => by
  obtain ⟨hi, ⟨old, he⟩, ⟨o, ho, r⟩, hne⟩ := st
  exact ⟨hi, ⟨old, k e (by simp) _ he⟩, ⟨o, k it (by simp) o ho, r⟩, hne⟩
 item := by
  intro X hP hw hK hc i pins s σ H E I hf st hg
  subst hP hw hK
  obtain ⟨hi, ⟨old, he⟩, hit, hne, hai, hae⟩ := st
  obtain ⟨xs, x, hq, hl, hx⟩ := hg
  obtain ⟨its, rv, p', _⟩ := I.tuple hq
  have p : s.heap.IsTuple a its.toArray := p'
  obtain ⟨u, hu, ru⟩ := rv.get hx
  have sz : its.toArray.size = n := by rw [List.size_toArray, ← rv.length, hl]
  have lt : i < its.toArray.size := by
   rw [sz, ← hl]
   exact (List.getElem?_eq_some_iff.mp hx).1
  have hel : e < s.heap.objs.size := Heap.lt_size he
  have hil : it < s.heap.objs.size := by
   obtain ⟨_, q, _⟩ := hit
   exact Heap.lt_size q
  refine wpAny_pyNext_enum_itemD (Draws.tuple (A := X.A.in1) (I.ok.hd hc) it a hai its.toArray) he ⟨hit, p⟩ lt hne (by simp [hne, hae.symm]) fun u' h' tk hu' ho hit' hT hsz hk => ?_
  have eu : u' = u := by
   have q : its[i]? = some u' := by simpa using hu'
   rw [hu] at q
   exact (Option.some.inj q).symm
  subst eu
  refine ⟨_, rfl, wpAny_letOwnedTupleGo_enum (s := { s with heap := h', toks := tk + 1 }) ho fun h'' he' sb => ?_⟩
  have hT2 : h''.get? s.heap.objs.size = some { cls := .type "tuple", data := .seq #[.int i tk, u'] } := (sb.2 _ (Nat.ne_of_gt hel)).trans hT
  have new : ObjOk X.prog X.w (upd H s.heap.objs.size (.tup [.int (i : Nat), x])) h'' s.heap.objs.size (.tup [.int (i : Nat), x]) :=
   ⟨by show 2 ≤ sizeLine; decide, [.int i tk, u'], .cons ⟨_, rfl⟩ (.cons ru .nil), ⟨_, hT2, rfl, _, rfl⟩⟩
  have I1 : Inv X pins σ (upd H s.heap.objs.size (.tup [.int (i : Nat), x])) { s with heap := h'', toks := tk + 1 } :=
   I.turnedNew (ch := [e, it]) (fun b ob hb q => (sb.2 b (fun z => hb (by simp [z]))).trans (hk b ob (fun z => hb (by simp [z])) (fun z => hb (by simp [z])) q)) hf (Nat.le_refl _) new
  refine ⟨.ref s.heap.objs.size, _, I1, rfl, ⟨_, x, rfl, I.hok.fresh (Nat.le_refl _), rfl, fun ys hy => by rw [I.tuple_inj hy hq]; exact hx⟩, ⟨by omega, ⟨u', ?_⟩, ?_, hne, hai, hae⟩, fun b hb => ?_⟩
  ·have e1 : ((i + 1 : Nat) : Int) = (i : Int) + 1 := by omega
   rw [e1]
   exact he'
  ·obtain ⟨o, ho2, r⟩ := hit'.1
   exact ⟨o, (sb.2 it (Ne.symm hne)).trans ho2, r⟩
  ·have hb' : b < s.heap.objs.size := by
    have q : b = e ∨ b = it := by simpa using hb
    rcases q with z | z
    ·rw [z]; exact hel
    ·rw [z]; exact hil
   rw [upd_ne (Nat.ne_of_lt hb')]
   exact (hf b hb).1
 done := by
  intro X hP hw hK hc i pins s σ H E I hf st hg
  subst hP hw hK
  obtain ⟨hi, ⟨old, he⟩, hit, hne, hai, hae⟩ := st
  obtain ⟨xs, hq, hl, ge⟩ := hg
  obtain ⟨its, rv, p', _⟩ := I.tuple hq
  have p : s.heap.IsTuple a its.toArray := p'
  have sz : its.toArray.size = n := by rw [List.size_toArray, ← rv.length, hl]
  have ei : i = its.toArray.size := by omega
  subst ei
  obtain ⟨f0, f1, f2, f3, f4, f5⟩ := hf it (by simp)
  exact wpAny_pyNext_enum_endD (Draws.tuple (A := X.A.in1) (I.ok.hd hc) it a hai its.toArray) he ⟨hit, p⟩ fun h' eb => ⟨rfl, I.turned (t' := s.toks) (fun b o hb q => eb b o hb q) f0 f1 f3 f4 f5⟩
 self := fun A i s Q E st h => let ⟨_, ⟨_, he⟩, _⟩ := st; wpAny_pyIter_enum he h
def iEnumT (K : PySem.W.Frag) (ta : TA) : TI := fun σ H R => ta σ H fun vs H1 => ∃ a xs, vs = [.ref a] ∧ SqT K H1 a xs ∧ R (Itet K a xs.length) H1
theorem pi_enumT {X : Cx} {e : Expr} {ta : TA} {p pos tpos : Pos} {elts : List Expr} {kk : Nat} (hg : Gl X "enumerate") (hm : X.mg "enumerate" = none) (ha : PA X [e] ta) (hs : starEach [e] X.env = [(false, eval e X.env)] := by rfl) :
  PI X (.Tuple elts kk tpos) (.Call (.Name "enumerate" p) [e] [] pos) (iEnumT X.K ta) := by
 refine ⟨fun pins s σ H R I h => ?_⟩
 refine Call_ (ld_blt I hg hm boot_enumerate (PyProof.Rows.callWith_type1 (thn (ha.run pos pins s σ H _ I h) fun us s1 ⟨vs, H1, I1, r1, q1⟩ => ?_) hs rfl))
 obtain ⟨a, xs, ex, hq, q⟩ := q1
 subst ex
 obtain ⟨u, rfl, ru⟩ := r1.one
 cases ru
 obtain ⟨its, rv, p', hz⟩ := I1.tuple hq
 have ht : s1.heap.IsTuple a its.toArray := p'
 have al : a < s1.heap.objs.size := by
  obtain ⟨o, ho, _⟩ := ht
  exact Heap.lt_size ho
 refine call_enumB (begins_tuple a its.toArray) ht fun h' he hit hsz hk => wpAny_pyIter_enum he ?_
 have I2 : Inv X pins σ H1 { s1 with heap := h' } := I1.kept (t' := s1.toks) hk
 refine ⟨s1.heap.objs.size + 1, [s1.heap.objs.size + 1, s1.heap.objs.size], _, _, H1, rfl, I2, turn_enumT a (s1.heap.objs.size + 1) s1.heap.objs.size xs.length, ⟨Nat.zero_le _, ⟨.none, he⟩, ⟨_, hit, rfl, rfl⟩, Nat.succ_ne_self _, Nat.ne_of_lt al, Nat.ne_of_lt (Nat.lt_succ_of_lt al)⟩, fun b hb => ?_, q⟩
 have e' : b = s1.heap.objs.size + 1 ∨ b = s1.heap.objs.size := by simpa using hb
 have hle : s1.heap.objs.size ≤ b := by
  rcases e' with z | z
  ·rw [z]; exact Nat.le_add_right _ _
  ·rw [z]; exact Nat.le_refl _
 exact I1.fpOk hle (I1.hok.fresh hle)
theorem walk_enumT {K : PySem.W.Frag} {W : Wd} {a : Addr} {vs : List V} {ds : List D} (z : ds.length ≤ sizeLine) (h : SqT K W.S a vs) (r : Reps K W vs ds) : Walk K W (Itet K a vs.length) (enumD 0 ds) := by
 have hl := r.length
 refine ⟨by rw [enumD_len]; exact z, fun H i s hi => ?_, fun H i s hi => ⟨vs, same_t s h, rfl, by rw [enumD_len] at hi; omega⟩, fun H i x H' s y d e W1 μ l1 ok => ?_⟩
 ·rw [enumD_len] at hi
  obtain ⟨v, e, _⟩ := r.get (List.getElem?_eq_getElem hi)
  exact ⟨vs, v, same_t s h, rfl, e⟩
 ·obtain ⟨T, xv, rfl, hT, rfl, q⟩ := y
  have q2 := q vs (same_t s h)
  obtain ⟨xd, e3, r3⟩ := r.getV q2
  rw [enumD_get 0 ds i xd e3] at e
  cases e
  refine ⟨W1.new T (.tup [.int i, xv]), Go.new ok hT, ok.new hT, rep_tup ok hT (by show 2 ≤ sizeLine; decide) (.cons ?_ (.cons (r3.mono l1) .nil))⟩
  have : (0 : Int) + i = i := by omega
  rw [this]
  exact .int _
def itEX (f : FA) : FA := fun ρ μ => (f ρ μ).bind fun ds μ1 => match ds with
 | [.tup xs] => .ok (enumD 0 xs) μ1
 | [.lst xs] => .ok (enumD 0 xs) μ1
 | [.str x] => .ok (enumD 0 (signs x)) μ1
 | _ => .bad
theorem di_enumX {X : Cx} {E : WX} {e : Expr} {pos p : Pos} {fa : FA} {tpos : Pos} {elts : List Expr} {kk : Nat} (hm : X.mg "enumerate" = none) (ha : DA X E [e] fa) (hg : Gl X "enumerate" := by rfl) (hs : starEach [e] X.env = [(false, eval e X.env)] := by rfl) : DI X E (.Tuple elts kk tpos) (.Call (.Name "enumerate" p) [e] [] pos) (itEX fa) := by
 refine pi_imp (pi_or (pi_or (pi_enum hg hm ha hs) (pi_enumS hg hm ha hs)) (pi_enumT hg hm ha hs)) fun σ H Q ⟨W, ρ, μ, ok, en, p⟩ => ?_
 unfold itEX at p
 have both : ∀ (T : List V → Hp → Prop), (∀ ds μ1, fa ρ μ = .ok ds μ1 → ∀ W1 vs H1, Go W H W1 H1 → Ok X.K W1 H1 μ1 → Reps X.K W1 vs ds → T vs H1) → rA X.K E fa σ H T := fun T hT => by
  refine ⟨W, ρ, μ, ok, en, ?_⟩
  revert p
  cases e1 : fa ρ μ with
  | ok ds μ1 => exact fun _ W1 vs H1 g o r => hT ds μ1 e1 W1 vs H1 g o r
  | ex c fs μ1 => exact fun p => p
  | bad => exact fun p => p.elim
 cases e1 : fa ρ μ with
 | bad =>
  rw [e1] at p
  exact p.elim
 | ex c fs μ1 => exact .inl (.inl (both _ fun ds μ2 e2 => by rw [e1] at e2; cases e2))
 | ok ds μ1 =>
  rw [e1, R.bind_ok] at p
  match ds, p, e1 with
  | [.lst xs], p, e1 =>
   refine .inl (.inl (both _ fun ds μ2 e2 W1 vs H1 g o r => ?_))
   rw [e1] at e2
   cases e2
   cases r with
   | cons r rr =>
    cases rr
    cases r with
    | lst z h r => exact ⟨_, _, rfl, (same_lq o.sub h).sq, p W1 _ H1 g o (walk_enum z h.sq r)⟩
  | [.str x], p, e1 =>
   refine .inl (.inr (both _ fun ds μ2 e2 W1 vs H1 g o r => ?_))
   rw [e1] at e2
   cases e2
   cases r with
   | cons r rr =>
    cases rr
    cases r with
    | str _ z => exact ⟨_, rfl, p W1 _ H1 g o (walk_enumS x z)⟩
  | [.tup xs], p, e1 =>
   refine .inr (both _ fun ds μ2 e2 W1 vs H1 g o r => ?_)
   rw [e1] at e2
   cases e2
   cases r with
   | cons r rr =>
    cases rr
    cases r with
    | tup z h r => exact ⟨_, _, rfl, same_t o.sub h, p W1 _ H1 g o (walk_enumT z h r)⟩
end DL
/-! DL76: x, y = a, b. -/
namespace DL
open PySem PySem.Spec PyProof.Rows L2
def gpar (i j : Nat) (fa : FA) : FS := fun ρ μ => (fa ρ μ).to ρ fun ds μ1 => match ds with
 | [d, e] => .nx ((ρ.set i (some d)).set j (some e)) μ1
 | _ => .bad
@[simp] theorem ap_par (i j : Nat) (fa : FA) (ρ : En) (μ : Mu) : gpar i j fa ρ μ = (fa ρ μ).to ρ fun ds μ1 => match ds with
 | [d, e] => .nx ((ρ.set i (some d)).set j (some e)) μ1
 | _ => .bad := of_eq_true (eq_self _)
theorem ds_par {X : Cx} {E : WX} (i j : Nat) {x y : Str} {a b : Expr} {fa : FA} {px py pt pos : Pos} {kt k2 pt2} (hN : X.N.Nodup) (ha : DA X E [a, b] fa) (hc : X.calm = true := by rfl) (hi : X.N[i]? = some x := by rfl) (hj : X.N[j]? = some y := by rfl) (hij : i ≠ j := by decide)
  (hx : X.env.scope.names.lookup x = some .local := by rfl) (hy : X.env.scope.names.lookup y = some .local := by rfl)
  (hw : swappedStores [.Tuple [.Name x px, .Name y py] kt pt] (.Tuple [a, b] k2 pt2) X.env = pure (some [x, y]) := by rfl)
  (hs : swapsWithSole [.Tuple [.Name x px, .Name y py] kt pt] (.Tuple [a, b] k2 pt2) pos.line X.env = pure false := by rfl) :
  DS X E (.Assign [.Tuple [.Name x px, .Name y py] kt pt] (.Tuple [a, b] k2 pt2) pos) (gpar i j fa) := by
 refine ps_imp (ps_par hc hN hi hj hij hx hy ha hw hs) fun Z σ H ⟨W, ρ, μ, ok, en, p⟩ => ?_
 refine ⟨W, ρ, μ, ok, en, ?_⟩
 unfold gpar at p
 revert p
 cases fa ρ μ with
 | ex c fs μ1 => exact fun p W' H' d g o r => p W' σ H' d g o (en.mono g.le) r
 | bad => exact fun p => p
 | ok ds μ1 =>
  rw [R.to_ok]
  intro p W1 vs H1 g1 o1 r1
  split at p
  ·cases r1 with
   | cons q1 q2 =>
    cases q2 with
    | cons q3 q4 =>
     cases q4
     exact ⟨_, _, rfl, p W1 _ H1 g1 o1 (((en.mono g1.le).set q1 i).set q3 j)⟩
  ·exact p.elim
end DL
/-! DL84: zip of a list and a tuple. -/
namespace DL
open PySem L2 PySem.Spec PyProof.Rows
theorem five_of {c z TI TO i1 i2 : Addr} (h : c ∈ [z, TI, TO, i1, i2]) : c = z ∨ c = TI ∨ c = TO ∨ c = i1 ∨ c = i2 := by simpa using h
end DL
/-! DL87: zip(x, y, strict=True), both of one length. -/
namespace PySem
open Sem (wp)
/-- a zip that minds the lengths -/
abbrev IsZipS (h : Heap) (z TI TO : Addr) (f0 : Value) : Prop :=
 h.get? z = some { cls := .type "zip", dict := none, data := .fields #[f0, .bool false, .bool true, .ref TI, .ref TO], slots := #[] }
section
variable {prog : Program} {w : World} {A : Around} {E : Value → Shared → Prop} {s : Shared} {z TI TO i1 i2 it : Addr} {fp fp1 fp2 : List Addr} {n i : Nat} {P P1 P2 : Nat → Value → Prop} {St St1 St2 : Nat → Heap → Prop} {a1 a2 : Value}
theorem nextOrEnd_item {Q : Option Value → Shared → Prop} (D : Draws prog w A it fp n P St) (hlt : i < n) (st : St i s.heap)
  (hQ : ∀ x h' tk, P i x → St (i + 1) h' → Heap.SameBut it s.heap h' → Q (some x) { s with heap := h', toks := tk }) : wpAny (model prog w) A (Builtin.SmallTypes.nextOrEnd (.ref it)) Q E s := by
 unfold Builtin.SmallTypes.nextOrEnd
 exact wpAny_bind (wpAny_attempt (D.item i s _ _ hlt st fun x h' tk px st' sb => wpAny_pure (hQ x h' tk px st' sb)))
theorem nextOrEnd_done {Q : Option Value → Shared → Prop} (D : Draws prog w A it fp n P St) (st : St n s.heap)
  (hQ : ∀ h', Heap.ExtBut it s.heap h' → Q none { s with heap := h' }) : wpAny (model prog w) A (Builtin.SmallTypes.nextOrEnd (.ref it)) Q E s := by
 unfold Builtin.SmallTypes.nextOrEnd
 refine wpAny_bind (wpAny_attempt (D.done s _ _ st fun h' e hx he => ?_))
 obtain ⟨o, ho, hc⟩ := he
 refine wpAny_bind (wpAny_isInstance (T := "StopIteration") (b := true) ⟨o, ho, hc⟩ isSubtype_stop ?_)
 exact wpAny_pure (hQ _ hx)
theorem zipS_next_item {Q : Value → Shared → Prop} (S : ZipSep2 z TI TO i1 i2 fp1 fp2) (D1 : Draws prog w A i1 fp1 n P1 St1) (D2 : Draws prog w A i2 fp2 n P2 St2)
  (hz : IsZipS s.heap z TI TO .none) (hTI : IsTupOf2 s.heap TI (.ref i1) (.ref i2)) (hTO : IsTupOf2 s.heap TO a1 a2) (st1 : St1 i s.heap) (st2 : St2 i s.heap) (hlt : i < n)
  (hQ : ∀ x1 x2 h' tk, P1 i x1 → P2 i x2 → IsZipS h' z TI TO (rawInt s.heap.objs.size) → IsTupOf2 h' TO x1 x2 → St1 (i + 1) h' → St2 (i + 1) h' → IsTupOf2 h' s.heap.objs.size x1 x2 → h'.objs.size = s.heap.objs.size + 1 →
   (∀ c o, c ≠ z → c ≠ TO → c ≠ i1 → c ≠ i2 → s.heap.get? c = some o → h'.get? c = some o) → Q (.ref s.heap.objs.size) { s with heap := h', toks := tk }) :
  wpAny (model prog w) A (Builtin.«zip.__next__» ⟨[.ref z], []⟩) (fun fin s' => ∃ v, fin = .done (.ret v) ∧ Q v s') E s := by
 obtain ⟨hp, g, d, tk0, os⟩ := s
 show wpAny _ _ (field (.ref z) 2 >>= _) _ _ _
 refine wpAny_bind (wpAny_field hz rfl (x := .bool true) rfl ?_)
 show wpAny _ _ (field (.ref z) 3 >>= _) _ _ _
 refine wpAny_bind (wpAny_field hz rfl (x := .ref TI) rfl ?_)
 refine wpAny_bind (wpAny_seqItems hTI rfl ?_)
 show wpAny _ _ (Builtin.SmallTypes.ownedTupleIsFree (.ref z) >>= _) _ _ _
 refine wpAny_bind ?_
 unfold Builtin.SmallTypes.ownedTupleIsFree
 refine wpAny_bind (wpAny_field hz rfl (x := .none) rfl (wpAny_pure ?_))
 simp only [if_true]
 refine wpAny_bind (wpAny_rule ?_)
 refine wpAny_bind (wpAny_field hz rfl (x := .ref TO) rfl ?_)
 refine wpAny_bind (wpAny_setField_rec hz (by simp) fun g0 hz0 hs0 => ?_)
 replace hz0 : IsZipS g0 z TI TO .ellipsis := hz0
 replace hs0 : Heap.SameBut z hp g0 := hs0
 refine wpAny_bind ?_
 simp only [List.zipIdx_cons, List.zipIdx_nil, List.forIn_cons, List.forIn_nil]
 refine wpAny_bind (wpAny_bind (wpAny_onRaise ?_))
 show wpAny _ _ (Builtin.SmallTypes.nextOrEnd (.ref i1)) _ _ ⟨g0, g, d, tk0, os⟩
 refine nextOrEnd_item D1 hlt (D1.over st1 hs0 S.zf1) fun x1 p1 tk1 hx1 sn1 hp1 => ?_
 replace hp1 : Heap.SameBut i1 g0 p1 := hp1
 have hU1 : IsTupOf2 p1 TO a1 a2 := hp1.extBut _ _ S.Ti1 (hs0.extBut _ _ S.TOz hTO)
 refine wpAny_bind (wpAny_seqItems (s := ⟨p1, g, d, tk1, os⟩) hU1 rfl ?_)
 refine wpAny_bind (updateSeq_IsTupOf2 (s := ⟨p1, g, d, tk1, os⟩) hU1 fun g1 hT1 hs1 => ?_)
 replace hT1 : IsTupOf2 g1 TO x1 a2 := hT1
 replace hs1 : Heap.SameBut TO p1 g1 := hs1
 refine wpAny_bind (wpAny_letGo (wpAny_pure ?_))
 refine wpAny_bind (wpAny_bind (wpAny_onRaise ?_))
 show wpAny _ _ (Builtin.SmallTypes.nextOrEnd (.ref i2)) _ _ ⟨g1, g, d, tk1, os⟩
 refine nextOrEnd_item D2 hlt (D2.over (D2.over (D2.over st2 hs0 S.zf2) hp1 S.sep1_2) hs1 S.Tf2) fun x2 p2 tk2 hx2 sn2 hp2 => ?_
 replace hp2 : Heap.SameBut i2 g1 p2 := hp2
 have hU2 : IsTupOf2 p2 TO x1 a2 := hp2.extBut _ _ S.Ti2 hT1
 refine wpAny_bind (wpAny_seqItems (s := ⟨p2, g, d, tk2, os⟩) hU2 rfl ?_)
 refine wpAny_bind (updateSeq_IsTupOf2 (s := ⟨p2, g, d, tk2, os⟩) hU2 fun g2 hT2 hs2 => ?_)
 replace hT2 : IsTupOf2 g2 TO x1 x2 := hT2
 replace hs2 : Heap.SameBut TO p2 g2 := hs2
 refine wpAny_bind (wpAny_letGo (wpAny_pure (wpAny_pure ?_)))
 refine wpAny_bind (wpAny_seqItems (s := ⟨g2, g, d, tk2, os⟩) hT2 rfl ?_)
 refine wpAny_bind (wpAny_newTuple ?_)
 have hsz : g2.objs.size = hp.objs.size := by rw [hs2.1, hp2.1, hs1.1, hp1.1, hs0.1]
 have hzz : IsZipS g2 z TI TO .ellipsis := (hs2.extBut _ _ S.TOz.symm (hp2.extBut _ _ S.zi2 (hs1.extBut _ _ S.TOz.symm (hp1.extBut _ _ S.zi1 hz0))))
 have hkk : ∀ c o, c ≠ z → c ≠ TO → c ≠ i1 → c ≠ i2 → hp.get? c = some o → g2.get? c = some o := fun c o cz cT c1 c2 e =>
  (hs2.extBut _ _ cT (hp2.extBut _ _ c2 (hs1.extBut _ _ cT (hp1.extBut _ _ c1 (hs0.extBut _ _ cz e)))))
 have hj1 : St1 (i + 1) g2 := (D1.over (D1.over (D1.over sn1 hs1 S.Tf1) hp2 S.sep2_1) hs2 S.Tf1)
 have hj2 : St2 (i + 1) g2 := (D2.over sn2 hs2 S.Tf2)
 have hzlt : z < g2.objs.size := Heap.lt_size hzz
 show wpAny _ _ (Builtin.SmallTypes.ownedTupleHandOut (.ref z) (.ref g2.objs.size) >>= _) _ _ ⟨g2.push { cls := .type "tuple", data := .seq #[x1, x2] }, g, d, tk2, os⟩
 refine wpAny_bind ?_
 unfold Builtin.SmallTypes.ownedTupleHandOut
 have hz₆ : IsZipS (g2.push { cls := .type "tuple", data := .seq #[x1, x2] }) z TI TO .ellipsis := Heap.get?_push_of_some _ hzz
 refine wpAny_bind (wpAny_setField_rec hz₆ (by simp) fun h₇ hz₇ hs₇ => ?_)
 replace hz₇ : IsZipS h₇ z TI TO (rawInt g2.objs.size) := hz₇
 refine wpAny_setField_rec hz₇ (by simp) fun h₈ hz₈ hs₈ => ?_
 replace hz₈ : IsZipS h₈ z TI TO (rawInt g2.objs.size) := hz₈
 replace hs₇ : Heap.SameBut z (g2.push { cls := .type "tuple", data := .seq #[x1, x2] }) h₇ := hs₇
 replace hs₈ : Heap.SameBut z h₇ h₈ := hs₈
 have up : ∀ c o, c ≠ z → g2.get? c = some o → h₈.get? c = some o := fun c o c1 e => hs₈.extBut _ _ c1 (hs₇.extBut _ _ c1 (Heap.get?_push_of_some _ e))
 have hT₈ : IsTupOf2 h₈ g2.objs.size x1 x2 := hs₈.extBut _ _ (Nat.ne_of_gt hzlt) (hs₇.extBut _ _ (Nat.ne_of_gt hzlt) (Heap.get?_push_size _ rfl))
 have hz8 : h₈.objs.size = g2.objs.size + 1 := by rw [hs₈.1, hs₇.1, Heap.size_push]
 rw [hsz] at hz₈ hT₈ hz8
 refine wpAny_pure ⟨_, rfl, ?_⟩
 show Q (.ref g2.objs.size) ⟨h₈, g, d, tk2, os⟩
 rw [hsz]
 exact hQ x1 x2 h₈ tk2 hx1 hx2 hz₈ (up _ _ S.TOz hT2) (D1.frame _ _ _ hj1 fun b hb o e => up b o (fun q => S.zf1 (q ▸ hb)) e) (D2.frame _ _ _ hj2 fun b hb o e => up b o (fun q => S.zf2 (q ▸ hb)) e) hT₈ hz8 fun c o cz cT c1 c2 e => up c o cz (hkk c o cz cT c1 c2 e)
theorem stop_raised {α : Type} {Q : α → Shared → Prop} (hh : A.handled = none) (hE : ∀ h' e, (∀ c o, s.heap.get? c = some o → h'.get? c = some o) → (∃ o, h'.get? e = some o ∧ o.cls = .type "StopIteration") → E (.ref e) { s with heap := h' }) : wpAny (model prog w) A (Builtin.SmallTypes.stopIteration (α := α)) Q E s := by
 show wpAny _ _ (newExc (.type "StopIteration") [] >>= _) _ _ _
 refine wpAny_bind ?_
 simp only [newExc, newTuple]
 refine wpAny_bind (wpAny_newObj_type ?_ (by size_fits))
 refine wpAny_bind (m := firstArgMember _ _) (wpAny_of_eq (a := Value.none) (by first | rfl | (simp only [firstArgMember]; rfl)) ?_)
 refine wpAny_newObj_type ?_ (by size_fits)
 simp only [raiseNew]
 refine wpAny_bind (wpAny_handled ?_)
 rw [hh]
 refine wpAny_bind (wpAny_pure (wpAny_throw ?_))
 exact hE _ _ (fun c o e => Heap.get?_push_of_some _ (Heap.get?_push_of_some _ e)) ⟨_, Heap.get?_push_size _ rfl, rfl⟩
theorem zipS_next_end {Q : Fin → Shared → Prop} (hh : A.handled = none) (S : ZipSep2 z TI TO i1 i2 fp1 fp2) (D1 : Draws prog w A i1 fp1 n P1 St1) (D2 : Draws prog w A i2 fp2 n P2 St2)
  (hz : IsZipS s.heap z TI TO .none) (hTI : IsTupOf2 s.heap TI (.ref i1) (.ref i2)) (hTO : IsTupOf2 s.heap TO a1 a2) (st1 : St1 n s.heap) (st2 : St2 n s.heap)
  (hE : ∀ h' tk e, (∀ c o, c ≠ z → c ≠ TO → c ≠ i1 → c ≠ i2 → s.heap.get? c = some o → h'.get? c = some o) → (∃ o, h'.get? e = some o ∧ o.cls = .type "StopIteration") → E (.ref e) { s with heap := h', toks := tk }) :
  wpAny (model prog w) A (Builtin.«zip.__next__» ⟨[.ref z], []⟩) Q E s := by
 obtain ⟨hp, g, d, tk0, os⟩ := s
 show wpAny _ _ (field (.ref z) 2 >>= _) _ _ _
 refine wpAny_bind (wpAny_field hz rfl (x := .bool true) rfl ?_)
 show wpAny _ _ (field (.ref z) 3 >>= _) _ _ _
 refine wpAny_bind (wpAny_field hz rfl (x := .ref TI) rfl ?_)
 refine wpAny_bind (wpAny_seqItems hTI rfl ?_)
 show wpAny _ _ (Builtin.SmallTypes.ownedTupleIsFree (.ref z) >>= _) _ _ _
 refine wpAny_bind ?_
 unfold Builtin.SmallTypes.ownedTupleIsFree
 refine wpAny_bind (wpAny_field hz rfl (x := .none) rfl (wpAny_pure ?_))
 simp only [if_true]
 refine wpAny_bind (wpAny_rule ?_)
 refine wpAny_bind (wpAny_field hz rfl (x := .ref TO) rfl ?_)
 refine wpAny_bind (wpAny_setField_rec hz (by simp) fun g0 hz0 hs0 => ?_)
 replace hz0 : IsZipS g0 z TI TO .ellipsis := hz0
 replace hs0 : Heap.SameBut z hp g0 := hs0
 refine wpAny_bind ?_
 simp only [List.zipIdx_cons, List.zipIdx_nil, List.forIn_cons, List.forIn_nil]
 refine wpAny_bind (wpAny_bind (wpAny_onRaise ?_))
 show wpAny _ _ (Builtin.SmallTypes.nextOrEnd (.ref i1)) _ _ ⟨g0, g, d, tk0, os⟩
 refine nextOrEnd_done D1 (D1.over st1 hs0 S.zf1) fun p1 hp1 => ?_
 replace hp1 : Heap.ExtBut i1 g0 p1 := hp1
 have hz1 : IsZipS p1 z TI TO .ellipsis := hp1 _ _ S.zi1 hz0
 refine wpAny_bind (wpAny_setField_rec (s := ⟨p1, g, d, tk0, os⟩) hz1 (by simp) fun g1 hz2 hs1 => ?_)
 replace hz2 : IsZipS g1 z TI TO .none := hz2
 replace hs1 : Heap.SameBut z p1 g1 := hs1
 have k1 : ∀ c o, c ≠ z → c ≠ i1 → hp.get? c = some o → g1.get? c = some o := fun c o cz c1 e => hs1.extBut _ _ cz (hp1 _ _ c1 (hs0.extBut _ _ cz e))
 have st2' : St2 n g1 := D2.frame _ _ _ st2 fun b hb o e => k1 b o (fun q => S.zf2 (q ▸ hb)) (fun q => S.sep1_2 (q ▸ hb)) e
 refine wpAny_bind ?_
 show wpAny _ _ (forIn (List.zipIdx [Value.ref i2] 1) _ _ >>= _) _ _ ⟨g1, g, d, tk0, os⟩
 refine wpAny_bind ?_
 simp only [List.zipIdx_cons, List.zipIdx_nil, List.forIn_cons, List.forIn_nil]
 refine wpAny_bind (wpAny_bind ?_)
 refine nextOrEnd_done (s := ⟨g1, g, d, tk0, os⟩) D2 st2' fun p2 hp2 => ?_
 replace hp2 : Heap.ExtBut i2 g1 p2 := hp2
 refine wpAny_pure ?_
 refine wpAny_pure ?_
 refine wpAny_bind (wpAny_rule ?_)
 refine stop_raised (s := ⟨p2, g, d, tk0, os⟩) hh fun h' e hk he => hE h' tk0 e (fun c o cz cT c1 c2 x => hk c o (hp2 _ _ c2 (k1 c o cz c1 x))) he
theorem wpAny_pyNext_zipS_item {Q : Option Value → Shared → Prop} (S : ZipSep2 z TI TO i1 i2 fp1 fp2) (D1 : Draws prog w A.in1 i1 fp1 n P1 St1) (D2 : Draws prog w A.in1 i2 fp2 n P2 St2)
  (hz : IsZipS s.heap z TI TO .none) (hTI : IsTupOf2 s.heap TI (.ref i1) (.ref i2)) (hTO : IsTupOf2 s.heap TO a1 a2) (st1 : St1 i s.heap) (st2 : St2 i s.heap) (hlt : i < n)
  (hQ : ∀ x1 x2 h' tk, P1 i x1 → P2 i x2 → IsZipS h' z TI TO (rawInt s.heap.objs.size) → IsTupOf2 h' TO x1 x2 → St1 (i + 1) h' → St2 (i + 1) h' → IsTupOf2 h' s.heap.objs.size x1 x2 → h'.objs.size = s.heap.objs.size + 1 →
   (∀ c o, c ≠ z → c ≠ TO → c ≠ i1 → c ≠ i2 → s.heap.get? c = some o → h'.get? c = some o) → Q (some (.ref s.heap.objs.size)) { s with heap := h', toks := tk }) :
  wpAny (model prog w) A (pyNext (.ref z)) Q E s := by
 have hT : s.TypeIs (.ref z) "zip" := ⟨_, hz, rfl⟩
 unfold pyNext
 exact wpAny_bind (wpAny_attempt (wpAny_callSpecial?_slot (name := Str.ofString "__next__") hT F.slot_zip_next
  (wpAny_call_entry F.slot_zip_next hT F.entry_zip_next
   (zipS_next_item S D1 D2 hz hTI hTO st1 st2 hlt fun x1 x2 h' tk y1 y2 b1 b2 d1 d2 b5 b6 b7 => wpAny_pure (hQ x1 x2 h' tk y1 y2 b1 b2 d1 d2 b5 b6 b7)) (F.args_zip_next_1 _))))
theorem wpAny_pyNext_zipS_end {Q : Option Value → Shared → Prop} (hh : A.in1.handled = none) (S : ZipSep2 z TI TO i1 i2 fp1 fp2) (D1 : Draws prog w A.in1 i1 fp1 n P1 St1) (D2 : Draws prog w A.in1 i2 fp2 n P2 St2)
  (hz : IsZipS s.heap z TI TO .none) (hTI : IsTupOf2 s.heap TI (.ref i1) (.ref i2)) (hTO : IsTupOf2 s.heap TO a1 a2) (st1 : St1 n s.heap) (st2 : St2 n s.heap)
  (hQ : ∀ h' tk, (∀ c o, c ≠ z → c ≠ TO → c ≠ i1 → c ≠ i2 → s.heap.get? c = some o → h'.get? c = some o) → Q none { s with heap := h', toks := tk }) : wpAny (model prog w) A (pyNext (.ref z)) Q E s := by
 have hT : s.TypeIs (.ref z) "zip" := ⟨_, hz, rfl⟩
 unfold pyNext
 refine wpAny_bind (wpAny_attempt (wpAny_callSpecial?_slot (name := Str.ofString "__next__") hT F.slot_zip_next
  (wpAny_call_entry F.slot_zip_next hT F.entry_zip_next (zipS_next_end hh S D1 D2 hz hTI hTO st1 st2 fun h' tk e hk he => ?_) (F.args_zip_next_1 _))))
 obtain ⟨o, ho, hc⟩ := he
 refine wpAny_bind (wpAny_isInstance (T := "StopIteration") (b := true) ⟨o, ho, hc⟩ isSubtype_stop ?_)
 exact wpAny_pure (hQ _ _ hk)
theorem wpAny_letOwnedTupleGo_zipS {elts : List Expr} {x1} {pos : Pos} {T : Addr} {Q : Unit → Shared → Prop} (hz : IsZipS s.heap z TI TO (rawInt T))
  (hQ : ∀ h', IsZipS h' z TI TO .none → Heap.SameBut z s.heap h' → Q () { s with heap := h' }) :
  wpAny (model prog w) A (letOwnedTupleGo (.Tuple elts x1 pos) (.ref z) (.ref T)) Q E s := by
 unfold letOwnedTupleGo
 refine wpAny_bind (wpAny_load hz ?_)
 show wpAny _ _ (ite (_ = true) _ _) Q E s
 rw [if_pos (by simp)]
 refine wpAny_bind (wpAny_rule ?_)
 show wpAny _ _ (setField (.ref z) 0 .none) Q E s
 exact wpAny_setField_rec hz (by simp) fun h' hz' hs' => hQ h' hz' hs'
theorem wpAny_pyIter_zipS {f0 : Value} {Q : Value → Shared → Prop} (hz : IsZipS s.heap z TI TO f0) (h : Q (.ref z) s) : wpAny (model prog w) A (pyIter (.ref z)) Q E s := by
 have hT : s.TypeIs (.ref z) "zip" := ⟨_, hz, rfl⟩
 refine wpAny_pyIter_slot hT F.slot_zip_iter (wpAny_call_entry F.slot_zip_iter hT F.entry_zip_iter ?_ (F.args_zip_iter_1 _))
 show wpAny _ _ (ret (.ref z)) _ _ s
 exact wpAny_pure ⟨_, rfl, "zip", _, hT, F.slot_zip_next.lookup, h⟩
end
theorem F.typeCall_zip_s (a b c : Value) : checkTypeCall "zip" ⟨[a, b], [(Str.ofString "strict", c)]⟩ = pure () := by kernel_rfl
theorem F.newCall_zip_s (a b c : Value) : checkBuiltinCall "zip.__new__" ⟨[.type "zip", a, b], [(Str.ofString "strict", c)]⟩ = pure () := by kernel_rfl
theorem F.args_object_init_s (obj a b c : Value) : argsOk "object.__init__" ⟨[obj, a, b], [(Str.ofString "strict", c)]⟩ := by unfold argsOk; kernel_rfl
abbrev gzS2 (h : Heap) (o1 o2 : Obj) : Heap := (gzO2 h o1 o2).push { cls := .type "zip", data := .fields #[.none, .bool false, .bool true, .ref ((h.push o1).push o2).objs.size, .ref (gzT2 h o1 o2).objs.size] }
theorem meets_zip_newS2 {v1 v2 : Value} {o1 o2 : Obj} {H1 H2 : Heap → Prop} (B1 : Begins v1 o1 H1) (B2 : Begins v2 o2 H2) :
  Meets (Builtin.«zip.__new__» ⟨[.type "zip", v1, v2], [(Str.ofString "strict", .bool true)]⟩) (fun _ R s => (H1 s.heap ∧ H2 s.heap) ∧
   R (.ok (.ret (.ref (gzO2 s.heap o1 o2).objs.size))) { s with heap := gzS2 s.heap o1 o2 }) :=
 .of_wp fun prog w A R s h => by
  obtain ⟨hp, g, d, tk, os⟩ := s; obtain ⟨⟨h1, h2⟩, h⟩ := h
  have hsub := sub_zip
  have q1 : ∀ {A' : Around} {E : Value → Shared → Prop} {Q : Value → Shared → Prop}, Q (.ref hp.objs.size) ⟨(hp.push o1), g, d, tk, os⟩ → wpAny (model prog w) A' (pyIter v1) Q E ⟨hp, g, d, tk, os⟩ :=
   fun q => B1.iter prog w _ _ ⟨hp, g, d, tk, os⟩ _ (B1.keeps _ _ h1 fun b o' e => e) q
  have q2 : ∀ {A' : Around} {E : Value → Shared → Prop} {Q : Value → Shared → Prop}, Q (.ref (hp.push o1).objs.size) ⟨((hp.push o1).push o2), g, d, tk, os⟩ → wpAny (model prog w) A' (pyIter v2) Q E ⟨(hp.push o1), g, d, tk, os⟩ :=
   fun q => B2.iter prog w _ _ ⟨(hp.push o1), g, d, tk, os⟩ _ (B2.keeps _ _ h2 fun b o' e => (Heap.get?_push_of_some _ e)) q
  have e2 : (Str.ofString "strict" != ("strict" : Str)) = false := by decide +kernel
  wp_walk using q1, q2
  exact ⟨_, rfl, h⟩
end PySem
/-! DL88: zip(x, y, strict=True) walked: a list and a tuple of one length. -/
namespace DL
open PySem L2 PySem.Spec PyProof.Rows
section
variable {M : Model} {A : Around} {E : Value → Shared → Prop} {s : Shared} {env : Env}
theorem callWith_typeK {pos : Pos} {T : String} {e : Expr} {rest : List Expr} {kws : List Keyword} {Q : Value → Shared → Prop}
  (h : wpAny M A (spliced (backTo pos (starEach (e :: rest) env))) (fun vs s₁ => wpAny M A (evalAll ((backToKw pos (keywordEach kws env)).map (·.2)))
   (fun kvs s₂ => wpAny M A (call (.type T) vs (((backToKw pos (keywordEach kws env)).filterMap (·.1)).zip kvs)) Q E s₂) E s₁) E s)
  (he : backTo pos (starEach (e :: rest) env) = (false, eval e env) :: backTo pos (starEach rest env) := by rfl)
  (hplain : (backTo pos (starEach (e :: rest) env)).any (·.1) = false := by rfl)
  (hall : (backToKw pos (keywordEach kws env)).all (·.1.isSome) = true := by rfl)
  (hkw : (backToKw pos (keywordEach kws env)).any (·.1.isNone) = false := by rfl) :
  wpAny M A (callWith pos (.type T) [] (backTo pos (starEach (e :: rest) env)) (backToKw pos (keywordEach kws env))) Q E s := by
 have ha : wpAny M A (evalArgs (.type T) true (backTo pos (starEach (e :: rest) env)) (backToKw pos (keywordEach kws env))) (fun a s₁ => wpAny M A (call (.type T) ([] ++ a.pos) a.kw) Q E s₁) E s := by
  rw [he] at h ⊢
  exact evalArgs_kwB hall h
 unfold callWith
 refine wpAny_bind (wpAny_holding (wpAny_mono ha (fun a s₁ h₁ => wpAny_bind (wpAny_standAt ?_)) fun _ _ x => x))
 simp only [hplain, hkw, Bool.or_false]
 refine wpAny_bind (wpAny_pure ?_)
 exact wpAny_bind (wpAny_mono h₁ (fun r s₂ hr => wpAny_bind (wpAny_holding (wpAny_point (wpAny_pure hr)))) fun _ _ x => x)
end
section
variable {prog : Program} {w : World} {A : Around} {E : Value → Shared → Prop} {s : Shared}
theorem zip_beginsS {v1 v2 : Value} {o1 o2 : Obj} {H1 H2 : Heap → Prop} {Q : Value → Shared → Prop} (B1 : Begins v1 o1 H1) (B2 : Begins v2 o2 H2) (h1 : H1 s.heap) (h2 : H2 s.heap)
  (h : ∀ h', IsZipS h' (s.heap.objs.size + 4) (s.heap.objs.size + 2) (s.heap.objs.size + 3) .none → IsTupOf2 h' (s.heap.objs.size + 2) (.ref s.heap.objs.size) (.ref (s.heap.objs.size + 1)) →
   IsTupOf2 h' (s.heap.objs.size + 3) .none .none → h'.get? s.heap.objs.size = some o1 → h'.get? (s.heap.objs.size + 1) = some o2 → h'.objs.size = s.heap.objs.size + 5 →
   (∀ c o, s.heap.get? c = some o → h'.get? c = some o) → Q (.ref (s.heap.objs.size + 4)) { s with heap := h' }) :
  wpAny (model prog w) A (call (.type "zip") [v1, v2] [(Str.ofString "strict", .bool true)]) Q E s := by
 refine callType_newKw F.called_zip (by decide) (F.typeCall_zip_s _ _ _) (F.newCall_zip_s _ _ _) (fun obj => F.args_object_init_s obj _ _ _) F.entry_zip_new
  (meets_zip_newS2 B1 B2) ⟨⟨h1, h2⟩, ?_⟩
 have z1 : (s.heap.push o1).objs.size = s.heap.objs.size + 1 := by rw [Heap.size_push]
 have z2 : ((s.heap.push o1).push o2).objs.size = s.heap.objs.size + 2 := by rw [Heap.size_push, z1]
 have zT : (gzT2 s.heap o1 o2).objs.size = s.heap.objs.size + 3 := by rw [Heap.size_push, z2]
 have zO : (gzO2 s.heap o1 o2).objs.size = s.heap.objs.size + 4 := by rw [Heap.size_push, zT]
 have zZ : (gzS2 s.heap o1 o2).objs.size = s.heap.objs.size + 5 := by rw [Heap.size_push, zO]
 have gZ : (gzS2 s.heap o1 o2).get? (gzO2 s.heap o1 o2).objs.size = some { cls := .type "zip", data := .fields #[.none, .bool false, .bool true, .ref ((s.heap.push o1).push o2).objs.size, .ref (gzT2 s.heap o1 o2).objs.size] } := Heap.get?_push_size _ rfl
 have gO : (gzS2 s.heap o1 o2).get? (gzT2 s.heap o1 o2).objs.size = some { cls := .type "tuple", data := .seq #[.none, .none] } := Heap.get?_push_of_some _ (Heap.get?_push_size _ rfl)
 have gT : (gzS2 s.heap o1 o2).get? ((s.heap.push o1).push o2).objs.size = some { cls := .type "tuple", data := .seq #[.ref s.heap.objs.size, .ref (s.heap.push o1).objs.size] } := Heap.get?_push_of_some _ (Heap.get?_push_of_some _ (Heap.get?_push_size _ rfl))
 have g1 : (gzS2 s.heap o1 o2).get? s.heap.objs.size = some o1 := Heap.get?_push_of_some _ (Heap.get?_push_of_some _ (Heap.get?_push_of_some _ (Heap.get?_push_of_some _ (Heap.get?_push_size _ B1.free))))
 have g2 : (gzS2 s.heap o1 o2).get? (s.heap.push o1).objs.size = some o2 := Heap.get?_push_of_some _ (Heap.get?_push_of_some _ (Heap.get?_push_of_some _ (Heap.get?_push_size _ B2.free)))
 rw [zO, zT, z2] at gZ
 rw [zT] at gO
 rw [z2, z1] at gT
 rw [z1] at g2
 show _ ∧ _
 rw [zO]
 exact ⟨⟨_, gZ, rfl⟩, h _ gZ gT gO g1 g2 zZ fun c o e => Heap.get?_push_of_some _ (Heap.get?_push_of_some _ (Heap.get?_push_of_some _ (Heap.get?_push_of_some _ (Heap.get?_push_of_some _ e))))⟩
end
def Sq.at_ : Sq → PySem.W.Frag → Hp → Addr → List V → Prop
 | .l => SqL
 | .t => SqT
def Sq.ob : Sq → Heap → Addr → Array Value → Prop
 | .l => fun h a xs => h.IsList a xs
 | .t => fun h a xs => h.IsTuple a xs
def Sq.bg : Sq → Addr → Obj
 | .l => fun a => { cls := .type "list_iterator", data := .fields #[.ref a, .int 0 0] }
 | .t => fun a => { cls := .type "tuple_iterator", data := .fields #[.ref a, .int 0 0] }
theorem Sq.begins : ∀ (k : Sq) (a : Addr) (xs : Array Value), Begins (.ref a) (k.bg a) fun h => k.ob h a xs
 | .l, a, xs => begins_list a xs
 | .t, a, xs => begins_tuple a xs
theorem Sq.draws {prog : Program} {w : World} {A : Around} (hh : A.handled = none) : ∀ (k : Sq) (it a : Addr), a ≠ it → ∀ xs : Array Value, Draws prog w A it [it, a] xs.size (fun i v => xs[i]? = some v) (fun i h => k.it h it a i ∧ k.ob h a xs)
 | .l, it, a, ne, xs => Draws.list hh it a ne xs
 | .t, it, a, ne, xs => Draws.tuple hh it a ne xs
theorem Sq.it_obj : ∀ {k : Sq} {h : Heap} {it a : Addr} {i : Nat}, k.it h it a i → ∃ o fs, h.get? it = some o ∧ o.data = .fields fs
 | .l, h, it, a, i, ⟨o, e, _, d⟩ => ⟨o, _, e, d⟩
 | .t, h, it, a, i, ⟨o, e, _, d⟩ => ⟨o, _, e, d⟩
theorem Sq.it_at : ∀ {k : Sq} {h h' : Heap} {it a : Addr} {i : Nat}, k.it h it a i → (∀ o, h.get? it = some o → h'.get? it = some o) → k.it h' it a i
 | .l, _, _, _, _, _, x, y => Heap.IsListIter.at x y
 | .t, _, _, _, _, _, x, y => Heap.IsTupleIter.at x y
theorem Sq.bg_it : ∀ {k : Sq} {h : Heap} {it a : Addr}, h.get? it = some (k.bg a) → k.it h it a 0
 | .l, h, it, a, e => ⟨_, e, rfl, rfl⟩
 | .t, h, it, a, e => ⟨_, e, rfl, rfl⟩
section
variable {X : Cx} {pins : List (Addr × Obj)} {σ : L2.St} {H : Hp} {s : Shared} {a : Addr} {xs ys : List V}
theorem Sq.items (I : Inv X pins σ H s) : ∀ {k : Sq}, k.at_ X.K H a xs → ∃ its : List Value, Vals xs its ∧ k.ob s.heap a its.toArray
 | .l, q => by
  obtain ⟨its, rv, p, _⟩ := I.list q
  exact ⟨its, rv, p.isList⟩
 | .t, q => by
  obtain ⟨its, rv, p, _⟩ := I.tuple q
  exact ⟨its, rv, p⟩
theorem Sq.inj (I : Inv X pins σ H s) : ∀ {k : Sq}, k.at_ X.K H a xs → k.at_ X.K H a ys → xs = ys
 | .l, p, q => I.list_inj p q
 | .t, p, q => I.tuple_inj p q
theorem Sq.ob_lt : ∀ {k : Sq} {h : Heap} {xs : Array Value}, k.ob h a xs → a < h.objs.size
 | .l, h, xs, ⟨o, ho, _⟩ => Heap.lt_size ho
 | .t, h, xs, ⟨o, ho, _⟩ => Heap.lt_size ho
end
theorem Sq.same {K : PySem.W.Frag} {S H : Hp} {a : Addr} {xs : List V} (s : Same S H) : ∀ {k : Sq}, k.at_ K S a xs → k.at_ K H a xs
 | .l, q => same_l s q
 | .t, q => same_t s q
/-- the rows at a and at b, as long, the items in new pairs -/
def ItzS (k1 k2 : Sq) (K : PySem.W.Frag) (a b : Addr) (n : Nat) : It :=
 ⟨fun i H => ∃ (xs ys : List V) (x y : V), k1.at_ K H a xs ∧ k2.at_ K H b ys ∧ xs.length = n ∧ ys.length = n ∧ xs[i]? = some x ∧ ys[i]? = some y,
  fun i H v H' => ∃ T x y, v = .ref T ∧ H T = none ∧ H' = upd H T (.tup [x, y]) ∧ (∀ xs, k1.at_ K H a xs → xs[i]? = some x) ∧ ∀ ys, k2.at_ K H b ys → ys[i]? = some y,
  fun i H => ∃ xs ys : List V, k1.at_ K H a xs ∧ k2.at_ K H b ys ∧ xs.length = n ∧ ys.length = n ∧ n ≤ i⟩
theorem turn_zipS {P : Program} {w : World} {K : PySem.W.Frag} {elts : List Expr} {kk : Nat} {tpos : Pos} {a b z TI TO i1 i2 : Addr} (k1 k2 : Sq) (n : Nat) (D : ZipSep2 z TI TO i1 i2 [i1, a] [i2, b]) (na : a ≠ i1) (nb : b ≠ i2) :
  Turn P w K (.Tuple elts kk tpos) (ItzS k1 k2 K a b n) [z, TI, TO, i1, i2] z (fun i h => i ≤ n ∧ IsZipS h z TI TO .none ∧ IsTupOf2 h TI (.ref i1) (.ref i2) ∧ (∃ x y, IsTupOf2 h TO x y) ∧ k1.it h i1 a i ∧ k2.it h i2 b i) where
 mem := by simp
 obj := fun i h st c hc => by
  obtain ⟨_, hz, hTI, ⟨x, y, hTO⟩, h1, h2⟩ := st
  obtain ⟨o1, f1, e1, d1⟩ := Sq.it_obj h1
  obtain ⟨o2, f2, e2, d2⟩ := Sq.it_obj h2
  rcases five_of hc with q | q | q | q | q
  ·rw [q]; exact ⟨_, hz, fun v q => nomatch q⟩
  ·rw [q]; exact ⟨_, hTI, fun v q => nomatch q⟩
  ·rw [q]; exact ⟨_, hTO, fun v q => nomatch q⟩
  ·rw [q]; exact ⟨o1, e1, fun v q => by rw [d1] at q; cases q⟩
  ·rw [q]; exact ⟨o2, e2, fun v q => by rw [d2] at q; cases q⟩
 keep := fun i h h' st k => by
  obtain ⟨l1, hz, hTI, ⟨x, y, hTO⟩, h1, h2⟩ := st
  exact ⟨l1, k z (by simp) _ hz, k TI (by simp) _ hTI, ⟨x, y, k TO (by simp) _ hTO⟩, Sq.it_at h1 fun o q => k i1 (by simp) o q, Sq.it_at h2 fun o q => k i2 (by simp) o q⟩
 item := by
  intro X hP hw hK hc i pins s σ H E I hf st hg
  subst hP hw hK
  obtain ⟨l1, hz, hTI, ⟨x0, y0, hTO⟩, h1, h2⟩ := st
  obtain ⟨xs, ys, x, y, hqx, hqy, hxl, hyl, hx, hy⟩ := hg
  obtain ⟨its, rv, p⟩ := Sq.items I hqx
  obtain ⟨its2, rv2, p2⟩ := Sq.items I hqy
  obtain ⟨u, hu, ru⟩ := rv.get hx
  obtain ⟨u2, hu2, ru2⟩ := rv2.get hy
  have sz1 : its.toArray.size = n := by rw [List.size_toArray, ← rv.length, hxl]
  have sz2 : its2.toArray.size = n := by rw [List.size_toArray, ← rv2.length, hyl]
  have t1 : i < n := by rw [← hxl]; exact (List.getElem?_eq_some_iff.mp hx).1
  have hzl : z < s.heap.objs.size := Heap.lt_size hz
  have D1 := Sq.draws (prog := X.prog) (w := X.w) (A := X.A.in1) (I.ok.hd hc) k1 i1 a na its.toArray
  have D2 := Sq.draws (prog := X.prog) (w := X.w) (A := X.A.in1) (I.ok.hd hc) k2 i2 b nb its2.toArray
  rw [sz1] at D1
  rw [sz2] at D2
  refine wpAny_pyNext_zipS_item D D1 D2 hz hTI hTO ⟨h1, p⟩ ⟨h2, p2⟩ t1 fun v1 v2 h' tk e1 e2 z' TO' h1' h2' hT hsz hk => ?_
  have q1 : v1 = u := by
   have q : its[i]? = some v1 := by simpa using e1
   rw [hu] at q
   exact (Option.some.inj q).symm
  have q2 : v2 = u2 := by
   have q : its2[i]? = some v2 := by simpa using e2
   rw [hu2] at q
   exact (Option.some.inj q).symm
  subst q1 q2
  refine ⟨_, rfl, wpAny_letOwnedTupleGo_zipS (s := { s with heap := h', toks := tk }) z' fun h'' z'' sb => ?_⟩
  have hT2 : h''.get? s.heap.objs.size = some { cls := .type "tuple", data := .seq #[v1, v2] } := (sb.2 _ (Nat.ne_of_gt hzl)).trans hT
  have new : ObjOk X.prog X.w (upd H s.heap.objs.size (.tup [x, y])) h'' s.heap.objs.size (.tup [x, y]) :=
   ⟨by show 2 ≤ sizeLine; decide, [v1, v2], .cons ru (.cons ru2 .nil), ⟨_, hT2, rfl, _, rfl⟩⟩
  have I1 : Inv X pins σ (upd H s.heap.objs.size (.tup [x, y])) { s with heap := h'', toks := tk } :=
   I.turnedNew (ch := [z, TI, TO, i1, i2]) (fun c o hb q => (sb.2 c (fun q' => hb (by simp [q']))).trans (hk c o (fun q' => hb (by simp [q'])) (fun q' => hb (by simp [q'])) (fun q' => hb (by simp [q'])) (fun q' => hb (by simp [q'])) q)) hf (Nat.le_refl _) new
  refine ⟨.ref s.heap.objs.size, _, I1, rfl, ⟨_, x, y, rfl, I.hok.fresh (Nat.le_refl _), rfl, fun l hl => by rw [Sq.inj I hl hqx]; exact hx, fun l hl => by rw [Sq.inj I hl hqy]; exact hy⟩, ⟨by omega, z'', ?_, ⟨v1, v2, ?_⟩, ?_, ?_⟩, fun c hcm => ?_⟩
  ·exact (sb.2 _ D.TIz).trans (hk _ _ D.TIz D.TITO D.TIi1 D.TIi2 hTI)
  ·exact (sb.2 _ D.TOz).trans TO'
  ·exact Sq.it_at h1'.1 fun o q => (sb.2 _ (Ne.symm D.zi1)).trans q
  ·exact Sq.it_at h2'.1 fun o q => (sb.2 _ (Ne.symm D.zi2)).trans q
  ·have hlt : c < s.heap.objs.size := by
    rcases five_of hcm with q | q | q | q | q
    ·rw [q]; exact hzl
    ·rw [q]; exact Heap.lt_size hTI
    ·rw [q]; exact Heap.lt_size hTO
    ·rw [q]; obtain ⟨_, _, e1, _⟩ := Sq.it_obj h1; exact Heap.lt_size e1
    ·rw [q]; obtain ⟨_, _, e2, _⟩ := Sq.it_obj h2; exact Heap.lt_size e2
   rw [upd_ne (Nat.ne_of_lt hlt)]
   exact (hf c hcm).1
 done := by
  intro X hP hw hK hc i pins s σ H E I hf st hg
  subst hP hw hK
  obtain ⟨l1, hz, hTI, ⟨x0, y0, hTO⟩, h1, h2⟩ := st
  obtain ⟨xs, ys, hqx, hqy, hxl, hyl, hend⟩ := hg
  obtain ⟨its, rv, p⟩ := Sq.items I hqx
  obtain ⟨its2, rv2, p2⟩ := Sq.items I hqy
  have sz1 : its.toArray.size = n := by rw [List.size_toArray, ← rv.length, hxl]
  have sz2 : its2.toArray.size = n := by rw [List.size_toArray, ← rv2.length, hyl]
  have D1 := Sq.draws (prog := X.prog) (w := X.w) (A := X.A.in1) (I.ok.hd hc) k1 i1 a na its.toArray
  have D2 := Sq.draws (prog := X.prog) (w := X.w) (A := X.A.in1) (I.ok.hd hc) k2 i2 b nb its2.toArray
  rw [sz1] at D1
  rw [sz2] at D2
  have en : i = n := by omega
  subst en
  exact wpAny_pyNext_zipS_end (I.ok.hd hc) D D1 D2 hz hTI hTO ⟨h1, p⟩ ⟨h2, p2⟩ fun h' tk hk => ⟨rfl, I.turnedL (t' := tk) (ch := [z, TI, TO, i1, i2]) (fun c o hb q =>
   hk c o (fun q' => hb (by simp [q'])) (fun q' => hb (by simp [q'])) (fun q' => hb (by simp [q'])) (fun q' => hb (by simp [q'])) q) hf⟩
 self := fun A i s Q E st h => wpAny_pyIter_zipS st.2.1 h
def iZipS (K : PySem.W.Frag) (ta : TA) : TI := fun σ H R => ta σ H fun vs H1 => ∃ (k1 k2 : Sq) (a b : Addr) (xs ys : List V), vs = [.ref a, .ref b] ∧ k1.at_ K H1 a xs ∧ k2.at_ K H1 b ys ∧ ys.length = xs.length ∧ R (ItzS k1 k2 K a b xs.length) H1
theorem pi_zipS {X : Cx} {e e2 : Expr} {ta : TA} {p pos tpos kp cp : Pos} {j : Nat} {elts : List Expr} {kk : Nat} (hg : Gl X "zip") (hm : X.mg "zip" = none) (ha : PA X [e, e2] ta)
  (he : backTo pos (starEach [e, e2] X.env) = (false, eval e X.env) :: backTo pos (starEach [e2] X.env) := by rfl) (hpl : (backTo pos (starEach [e, e2] X.env)).any (·.1) = false := by rfl) :
  PI X (.Tuple elts kk tpos) (.Call (.Name "zip" p) [e, e2] [⟨some "strict", .Constant (.bool true) j cp, kp⟩] pos) (iZipS X.K ta) := by
 refine ⟨fun pins s σ H R I h => ?_⟩
 refine wpAny_Call_Name_kw (ld_blt I hg hm PyProof.Rows.boot_zip ?_)
 refine callWith_typeK (thn (ha.run pos pins s σ H _ I h) fun us s1 ⟨vs, H1, I1, r1, q1⟩ => ?_) he hpl
 refine kws_cons (PySem.wpAny_Constant_bool (kws_nil ?_))
 obtain ⟨k1, k2, a, b, xs, ys, ex, hqx, hqy, hl, q⟩ := q1
 subst ex
 cases r1 with
 | cons r rr =>
  cases rr with
  | cons r' rr =>
   cases rr
   cases r
   cases r'
   show wpAny _ _ (call (Value.type "zip") [.ref a, .ref b] [(Str.ofString "strict", .bool true)]) _ _ _
   obtain ⟨its, rv, p1⟩ := Sq.items I1 hqx
   obtain ⟨its2, rv2, p2⟩ := Sq.items I1 hqy
   have al : a < s1.heap.objs.size := Sq.ob_lt p1
   have bl : b < s1.heap.objs.size := Sq.ob_lt p2
   refine zip_beginsS (Sq.begins k1 a its.toArray) (Sq.begins k2 b its2.toArray) p1 p2 fun h' hz hTI hTO h1 h2 hsz hk => wpAny_pyIter_zipS hz ?_
   have I2 : Inv X pins σ H1 { s1 with heap := h' } := I1.kept (t' := s1.toks) hk
   refine ⟨s1.heap.objs.size + 4, [s1.heap.objs.size + 4, s1.heap.objs.size + 2, s1.heap.objs.size + 3, s1.heap.objs.size, s1.heap.objs.size + 1], _, _, H1, rfl, I2, turn_zipS k1 k2 xs.length (zip_sep2 (N := s1.heap.objs.size) (fp1 := [a]) (fp2 := [b]) (by simpa using al) (by simpa using bl)) (Nat.ne_of_lt al) (Nat.ne_of_lt (Nat.lt_succ_of_lt bl)), ⟨Nat.zero_le _, hz, hTI, ⟨_, _, hTO⟩, Sq.bg_it h1, Sq.bg_it h2⟩, fun c hcm => ?_, q⟩
   have hle : s1.heap.objs.size ≤ c := by
    rcases five_of hcm with z | z | z | z | z
    ·rw [z]; exact Nat.le_add_right _ _
    ·rw [z]; exact Nat.le_add_right _ _
    ·rw [z]; exact Nat.le_add_right _ _
    ·rw [z]; exact Nat.le_refl _
    ·rw [z]; exact Nat.le_add_right _ _
   exact I1.fpOk hle (I1.hok.fresh hle)
theorem walk_zipS {K : PySem.W.Frag} {W : Wd} {k1 k2 : Sq} {a b : Addr} {vs ws : List V} {xs ys : List D} (z : xs.length ≤ sizeLine) (h1 : k1.at_ K W.S a vs) (r1 : Reps K W vs xs) (h2 : k2.at_ K W.S b ws) (r2 : Reps K W ws ys) (hl : ws.length = vs.length) : Walk K W (ItzS k1 k2 K a b vs.length) (zipD xs ys) := by
 have l1 := r1.length
 have l2 := r2.length
 refine ⟨by rw [zipD_len]; omega, fun H i s hi => ?_, fun H i s hi => ⟨vs, ws, Sq.same s h1, Sq.same s h2, rfl, hl, by rw [zipD_len] at hi; omega⟩, fun H i x H' s y d e W1 μ le ok => ?_⟩
 ·rw [zipD_len] at hi
  obtain ⟨v, e, _⟩ := r1.get (List.getElem?_eq_getElem (show i < xs.length by omega))
  obtain ⟨w, e2, _⟩ := r2.get (List.getElem?_eq_getElem (show i < ys.length by omega))
  exact ⟨vs, ws, v, w, Sq.same s h1, Sq.same s h2, rfl, hl, e, e2⟩
 ·obtain ⟨T, xv, yv, rfl, hT, rfl, q1, q2⟩ := y
  obtain ⟨xd, e3, r3⟩ := r1.getV (q1 vs (Sq.same s h1))
  obtain ⟨yd, e4, r4⟩ := r2.getV (q2 ws (Sq.same s h2))
  rw [zipD_get e3 e4] at e
  cases e
  exact ⟨W1.new T (.tup [xv, yv]), Go.new ok hT, ok.new hT, rep_tup ok hT (by show 2 ≤ sizeLine; decide) (.cons (r3.mono le) (.cons (r4.mono le) .nil))⟩
def rowD : D → Option (List D)
 | .lst xs => some xs
 | .tup xs => some xs
 | _ => none
theorem row_rep {K : PySem.W.Frag} {W : Wd} {v : V} {d : D} {xs : List D} (r : Rep K W v d) (h : rowD d = some xs) : ∃ (k : Sq) (a : Addr) (vs : List V), v = .ref a ∧ k.at_ K W.S a vs ∧ Reps K W vs xs ∧ xs.length ≤ sizeLine := by
 cases r with
 | lst z q rs =>
  cases h
  exact ⟨.l, _, _, rfl, q.sq, rs, z⟩
 | tup z q rs =>
  cases h
  exact ⟨.t, _, _, rfl, q, rs, z⟩
 | _ => cases h
/-- zip(x, y, strict=True), both of one length -/
def itZS (f : FA) : FA := fun ρ μ => (f ρ μ).bind fun ds μ1 => match ds with
 | [x, y] => match rowD x, rowD y with
  | some xs, some ys => if ys.length = xs.length then .ok (zipD xs ys) μ1 else .bad
  | _, _ => .bad
 | _ => .bad
@[simp] theorem ap_itZS (f : FA) (ρ : En) (μ : Mu) : itZS f ρ μ = (f ρ μ).bind fun ds μ1 => match ds with
 | [x, y] => match rowD x, rowD y with
  | some xs, some ys => if ys.length = xs.length then .ok (zipD xs ys) μ1 else .bad
  | _, _ => .bad
 | _ => .bad := of_eq_true (eq_self _)
theorem di_zipS {X : Cx} {E : WX} {e e2 : Expr} {fa : FA} {p pos tpos kp cp : Pos} {j : Nat} {elts : List Expr} {kk : Nat} (hm : X.mg "zip" = none) (ha : DA X E [e, e2] fa) (hg : Gl X "zip" := by rfl)
  (he : backTo pos (starEach [e, e2] X.env) = (false, eval e X.env) :: backTo pos (starEach [e2] X.env) := by rfl) (hpl : (backTo pos (starEach [e, e2] X.env)).any (·.1) = false := by rfl) :
  DI X E (.Tuple elts kk tpos) (.Call (.Name "zip" p) [e, e2] [⟨some "strict", .Constant (.bool true) j cp, kp⟩] pos) (itZS fa) := by
 refine pi_imp (pi_zipS hg hm ha he hpl) fun σ H Q ⟨W, ρ, μ, ok, en, p⟩ => ⟨W, ρ, μ, ok, en, ?_⟩
 unfold itZS at p
 revert p
 cases fa ρ μ with
 | bad => exact fun p => p
 | ex c fs μ1 => exact fun p => p
 | ok ds μ1 =>
  intro p W1 vs H1 g o r
  rw [R.bind_ok] at p
  split at p
  ·rename_i x y
   cases r with
   | cons ra rr =>
    cases rr with
    | cons rb rr =>
     cases rr
     split at p
     ·rename_i xs ys h1 h2
      split at p
      ·rename_i hl
       obtain ⟨k1, a, vs, rfl, q1, r1, z1⟩ := row_rep ra h1
       obtain ⟨k2, b, ws, rfl, q2, r2, z2⟩ := row_rep rb h2
       have hl2 : ws.length = vs.length := by rw [← r1.length, ← r2.length] at *; omega
       exact ⟨k1, k2, a, b, vs, ws, rfl, Sq.same o.sub q1, Sq.same o.sub q2, hl2, p W1 _ H1 g o (walk_zipS z1 q1 r1 q2 r2 hl2)⟩
      ·exact p.elim
     ·exact p.elim
  ·exact p.elim
end DL
/-! DL95: dicts whose keys are tuples of whole numbers (tracked ones or the module's own). -/
namespace DL
open PySem PySem.Spec PyProof.Rows PySem.W L2
/-- the place p spoilt -/
theorem spoil {h : Heap} {p : Addr} {o : Obj} (e : h.get? p = some o) : ∃ h2 : Heap, (∀ b, b ≠ p → h2.get? b = h.get? b) ∧ ∃ o2, h2.get? p = some o2 ∧ o2.data = .seq #[] 0 := by
 refine ⟨h.update p fun _ => { cls := .type "list", data := .seq #[] 0 }, fun b hb => Heap.get?_update_other _ _ (Ne.symm hb), _, Heap.get?_update_self _ e rfl, rfl⟩
theorem td_nc {a : Addr} {xs : List (List Key × Addr × Value)} {h : Heap} (e : ∃ (o : Obj) (es : Array DictEntry) (ep : Nat), h.get? a = some o ∧ o.ExactDict ∧ o.data = .dict es ep ∧ es.toList = xs.map tEnt) (p : Addr × Str) : tdO a xs ≠ .ext (codeP p) := fun z => by
 have z2 : (fun h : Heap => ∃ (o : Obj) (es : Array DictEntry) (ep : Nat), h.get? a = some o ∧ o.ExactDict ∧ o.data = .dict es ep ∧ es.toList = xs.map tEnt) = codeP p := HO.ext.inj z
 have all : ∀ h : Heap, (∃ (o : Obj) (es : Array DictEntry) (ep : Nat), h.get? a = some o ∧ o.ExactDict ∧ o.data = .dict es ep ∧ es.toList = xs.map tEnt) → ∃ (oc : Obj) (vs : Array Value), h.get? p.1 = some oc ∧ oc.data = .fields vs := fun h q => by
  have w : codeP p h := by
   rw [← z2]
   exact q
  obtain ⟨oc, vs, t, h1, h2, _⟩ := w
  exact ⟨oc, vs, h1, h2⟩
 obtain ⟨oc, vs, h1, h2⟩ := all h e
 by_cases hp : p.1 = a
 ·obtain ⟨o, es, ep, e1, _, e2, _⟩ := e
  rw [hp, e1] at h1
  cases h1
  rw [e2] at h2
  cases h2
 ·obtain ⟨g, g1, o2, g2, g3⟩ := spoil h1
  obtain ⟨o, es, ep, e1, e0, e2, e3⟩ := e
  obtain ⟨oc', vs', h3, h4⟩ := all g ⟨o, es, ep, (g1 a (Ne.symm hp)).trans e1, e0, e2, e3⟩
  rw [g2] at h3
  cases h3
  rw [g3] at h4
  cases h4
def lookT : List (List Key) → List D → List Key → Option D
 | k' :: ks, d :: ds, k => if k' = k then some d else lookT ks ds k
 | _, _, _ => none
def putTs : List (List Key) → List D → List Key → D → List D
 | k' :: ks, x :: ds, k, d => if k' = k then d :: putTs ks ds k d else x :: putTs ks ds k d
 | _, _, _, _ => []
def putT (ks : List (List Key)) (ds : List D) (k : List Key) (d : D) : List (List Key) × List D := if (lookT ks ds k).isSome = true then (ks, putTs ks ds k d) else (ks ++ [k], ds ++ [d])
section
variable {X : Cx} {E : WX} {pins : List (Addr × Obj)} {σ : L2.St} {H : Hp} {s : Shared} {W : Wd} {μ : Mu} {a b : Addr} {k : List Key}
theorem tent_eq {P : Program} {w : World} {x : List Key × Addr × Value} (h : ∀ k ∈ x.1, ∃ i, k = Sum.inl i) : entryOfKey (tupleKind (mixKind P w)) x = tEnt x := by
 have e : x.1.map (mixKind P w).hash = x.1.map tHash := List.map_congr_left fun k hk => by
  obtain ⟨i, rfl⟩ := h k hk
  rfl
 show DictEntry.mk (reduceHash (Builtin.Tuple.tupleHashOf (x.1.map (mixKind P w).hash))) _ _ = _
 rw [e]
 rfl
theorem tents_eq {P : Program} {w : World} {xs : List (List Key × Addr × Value)} (h : ∀ x ∈ xs, ∀ k ∈ x.1, ∃ i, k = Sum.inl i) : xs.map (entryOfKey (tupleKind (mixKind P w))) = xs.map tEnt := List.map_congr_left fun x hx => tent_eq (h x hx)
/-- such a dict as it lies there -/
structure TdAt (X : Cx) (s : Shared) (H : Hp) (W : Wd) (a : Addr) (ks : List (List Key)) (ds : List D) (xs : List (List Key × Addr × Value)) (vs : List V) : Prop where
 sys : (a == sysModules) = false
 key : ks = xs.map (·.1)
 whole : ∀ x ∈ xs, ∀ k ∈ x.1, ∃ i, k = Sum.inl i
 at_ : ∀ x ∈ xs, SqT X.K W.S x.2.1 (x.1.map kV)
 val : Vals vs (xs.map (·.2.2))
 rep : Reps X.K W vs ds
 len : xs.length ≤ sizeLine
 mu : Mut (H a)
 dd : s.heap.DictOfH (tupleKind (mixKind X.prog X.w)) a xs
/-- what is found -/
theorem lookT_rep {K : PySem.W.Frag} (k : List Key) : ∀ {xs : List (List Key × Addr × Value)} {vs : List V} {ds : List D}, Vals vs (xs.map (·.2.2)) → Reps K W vs ds → match lookT (xs.map (·.1)) ds k with
  | some d => ∃ p v, atKey xs k = some p ∧ RelV v p.2 ∧ Rep K W v d
  | none => atKey xs k = none
 | [], vs, ds, hv, r => by
  simp only [List.map_nil] at hv ⊢
  simp [lookT, atKey]
 | x :: xs, vs, ds, hv, r => by
  simp only [List.map_cons] at hv ⊢
  cases hv with
  | cons q1 q2 =>
   cases r with
   | cons r1 r2 =>
    unfold lookT
    by_cases e : x.1 = k
    ·rw [if_pos e]
     exact ⟨x.2, _, by simp [atKey, e], q1, r1⟩
    ·rw [if_neg e]
     have ih := lookT_rep (K := K) k (xs := xs) q2 r2
     have ea : atKey (x :: xs) k = atKey xs k := by simp [atKey, e]
     rw [ea]
     exact ih
theorem putAt_vals {K : PySem.W.Frag} {v : V} {u : Value} {d : D} (k : List Key) (rv : RelV v u) (rd : Rep K W v d) : ∀ {xs : List (List Key × Addr × Value)} {vs : List V} {ds : List D}, Vals vs (xs.map (·.2.2)) → Reps K W vs ds → ∃ vs', Vals vs' ((xs.map (putAt k u)).map (·.2.2)) ∧ Reps K W vs' (putTs (xs.map (·.1)) ds k d)
 | [], vs, ds, hv, r => ⟨[], .nil, by simp [putTs]; exact .nil⟩
 | x :: xs, vs, ds, hv, r => by
  simp only [List.map_cons] at hv ⊢
  cases hv with
  | cons q1 q2 =>
   cases r with
   | cons r1 r2 =>
    obtain ⟨vs', h1, h2⟩ := putAt_vals (K := K) k rv rd (xs := xs) q2 r2
    unfold putTs
    by_cases e : x.1 = k
    ·rw [if_pos e]
     exact ⟨v :: vs', .cons (by simpa [putAt, e] using rv) h1, .cons rd h2⟩
    ·rw [if_neg e]
     exact ⟨_ :: vs', .cons (by simpa [putAt, e] using q1) h1, .cons r1 h2⟩
theorem putAt_keys (k : List Key) (u : Value) (xs : List (List Key × Addr × Value)) : (xs.map (putAt k u)).map (·.1) = xs.map (·.1) := by
 rw [List.map_map]
 refine List.map_congr_left fun x hx => ?_
 simp only [Function.comp_apply, putAt]
 split <;> rfl
theorem TdAt.put {ks : List (List Key)} {ds : List D} {xs : List (List Key × Addr × Value)} {vs : List V} {v : V} {u : Value} {d : D} (t : TdAt X s H W a ks ds xs vs) (hb : SqT X.K W.S b (k.map kV)) (hk : ∀ x ∈ k, ∃ i, x = Sum.inl i) (rv : RelV v u) (rd : Rep X.K W v d) (hz : xs.length < sizeLine) {h' : Heap} (dd : h'.DictOfH (tupleKind (mixKind X.prog X.w)) a (storedH xs k b u)) :
  CellO X.K W (.dtt (putT ks ds k d).1 (putT ks ds k d).2) (tdO a (storedH xs k b u)) := by
 have lk := lookT_rep (K := X.K) k t.val t.rep
 rw [← t.key] at lk
 have nd : ((storedH xs k b u).map (·.1)).Nodup := let ⟨_, _, _, _, _, _, _, _, n⟩ := dd; n
 unfold putT
 cases hl : lookT ks ds k with
 | some d0 =>
  rw [hl] at lk
  obtain ⟨p, v0, e1, _, _⟩ := lk
  have es : storedH xs k b u = xs.map (putAt k u) := storedH_old e1 b u
  rw [es] at nd dd ⊢
  obtain ⟨vs', h1, h2⟩ := putAt_vals (K := X.K) k rv rd t.val t.rep
  simp only [Option.isSome_some, if_true]
  have wh : ∀ x ∈ xs.map (putAt k u), ∀ k ∈ x.1, ∃ i, k = Sum.inl i := fun x hx => by
   obtain ⟨y, hy, rfl⟩ := List.mem_map.mp hx
   have : (putAt k u y).1 = y.1 := by simp only [putAt]; split <;> rfl
   rw [this]
   exact t.whole y hy
  refine ⟨a, xs.map (putAt k u), vs', rfl, t.sys, by rw [putAt_keys]; exact t.key, wh, nd, fun x hx => ?_, h1, by rw [t.key]; exact h2, by rw [List.length_map]; exact t.len, fun p => ?_⟩
  ·obtain ⟨y, hy, rfl⟩ := List.mem_map.mp hx
   have e1 : (putAt k u y).1 = y.1 := by simp only [putAt]; split <;> rfl
   have e2 : (putAt k u y).2.1 = y.2.1 := by simp only [putAt]; split <;> rfl
   rw [e1, e2]
   exact t.at_ y hy
  ·obtain ⟨o, es, ep, q1, q2, q3, q4, _⟩ := dd
   exact td_nc ⟨o, es, ep, q1, q2, q3, by rw [q4, tents_eq wh]⟩ p
 | none =>
  rw [hl] at lk
  have lk : atKey xs k = none := lk
  have es : storedH xs k b u = xs ++ [(k, b, u)] := storedH_new lk b u
  rw [es] at nd dd ⊢
  simp only [Option.isSome_none, Bool.false_eq_true, if_false]
  have wh : ∀ x ∈ xs ++ [(k, b, u)], ∀ k ∈ x.1, ∃ i, k = Sum.inl i := fun x hx => by
   rcases List.mem_append.mp hx with z | z
   ·exact t.whole x z
   ·rw [List.mem_singleton.mp z]; exact hk
  refine ⟨a, xs ++ [(k, b, u)], vs ++ [v], rfl, t.sys, by rw [List.map_append, t.key]; rfl, wh, nd, fun x hx => ?_, by rw [List.map_append]; exact t.val.append (.cons rv .nil), t.rep.app (.cons rd .nil), by rw [List.length_append]; simp only [List.length_cons, List.length_nil]; omega, fun p => ?_⟩
  ·rcases List.mem_append.mp hx with z | z
   ·exact t.at_ x z
   ·rw [List.mem_singleton.mp z]; exact hb
  ·obtain ⟨o, es, ep, q1, q2, q3, q4, _⟩ := dd
   exact td_nc ⟨o, es, ep, q1, q2, q3, by rw [q4, tents_eq wh]⟩ p
end
end DL
/-! DL97: reckoning with the operators that look at cells, where the data have none. -/
namespace DL
open PySem PySem.Spec PyProof.Rows L2
theorem eqM_str (x y : Str) (μ : Mu) : dEqM (.str x) (.str y) μ = .ok (.bl (decide (x = y))) μ := by
 simp [dEqM, oneCell, eqM, D.kd, eqV]
 exact Bool.eq_iff_iff.mpr (by simp)
theorem neC_str (x y : Str) (μ : Mu) : dNeC (.str x) (.str y) μ = .ok (.bl (!decide (x = y))) μ := by
 simp [dNeC, lstAt, dNeM, neOk, dNeX, eqM, D.kd, eqV, scal]
 try (exact Bool.eq_iff_iff.mpr (by simp))
theorem neC_int (x y : Int) (μ : Mu) : dNeC (.int x) (.int y) μ = .ok (.bl (!decide (x = y))) μ := by
 simp [dNeC, lstAt, dNeM, neOk, dNeX, dNe, eqM, D.kd, eqV, scal]
theorem ixX_tup (xs : List D) (i : D) (μ : Mu) : dIxX (.tup xs) i μ = dIx (.tup xs) i μ := rfl
end DL
/-! DL105: repr of a list, of a tuple, whose things are shown by code of the program's: the loops, with an invariant. -/
namespace DL
open PySem PySem.Builtin PySem.Builtin.List
/-- the list of texts that a list's repr writes to -/
def rlObj (acc : Array Value) (c : Nat) : Obj := { cls := .type "list", dict := none, data := .seq acc c, slots := #[] }
def rlCode (a P : Addr) (i n : Int) : Code := .builtin "list.__repr__.loop" ⟨[.ref a, rawInt i, .ref P, rawInt n], []⟩
end DL
/-! DL106: defs that may run below a repr; an own __repr__ below a list's. -/
namespace DL
open PySem L2 PySem.Spec PyProof.Rows
/-- a def that keeps F, by at most level k, whatever reprs are under way -/
structure FnA (P : Program) (w : World) (K : PySem.W.Frag) (mg : Str → Option Value) (base : Heap) (k : Nat) (f : Addr) (fd : FuncData) (ps : List Str) (F : List D → Mu → R D) : Prop where
 run : ∀ (A : Around) (outer : List Env) (s : Shared) (H : Hp) (args : Args) (us : List Value) (vs : List V) (Q : VK) (E : XK) (W : Wd) (ds : List D) (μ : Mu), Room k A → Env0 P w K mg base A outer s H →
  us.length = ps.length → BindsTo s fd args (ps.zip us) → Vals vs us → Ok K W H μ → Reps K W vs ds → postE K E W H (F ds μ) Q → codeAny (model P w) A (.call (.ref f) args) (CR (L2.CX P w) outer P w H s Q E) s
theorem FnA.g {P : Program} {w : World} {K : PySem.W.Frag} {mg : Str → Option Value} {base : Heap} {k : Nat} {f : Addr} {fd : FuncData} {ps : List Str} {F : List D → Mu → R D} (h : FnA P w K mg base k f fd ps F) : FnG P w K mg base k f fd ps F :=
 ⟨fun A outer s H args us vs Q E W ds μ hr _ e0 hl hb rv ok r p => h.run A outer s H args us vs Q E W ds μ hr e0 hl hb rv ok r p⟩
section
variable {P : Program} {w : World} {K : PySem.W.Frag} {mg : Str → Option Value} {base : Heap}
theorem FnA.framed {k : Nat} {f : Addr} {fd : FuncData} {ps : List Str} {F : List D → Mu → R D} (h : FnA P w K mg base k f fd ps F) : FnA P w K mg base k f fd ps (DL.framed F) := by
 refine ⟨fun A outer s H args us vs Q E W ds μ hr e0 hl hb rv ok r p => ?_⟩
 have plain : postE K E W H (F ds μ) Q → codeAny (model P w) A (.call (.ref f) args) (CR (L2.CX P w) outer P w H s Q E) s := fun p => h.run A outer s H args us vs Q E W ds μ hr e0 hl hb rv ok r p
 unfold DL.framed at p
 by_cases c : D.closedL 0 ds = true
 ·rw [if_pos c] at p
  have r0 : Reps K ⟨W.S, []⟩ vs ds := by
   have := r.cut c
   rwa [List.take_zero] at this
  cases hF : F ds [] with
  | ok d μ1 =>
   rw [hF] at p
   dsimp only at p
   by_cases cd : d.closed 0 = true
   ·rw [if_pos cd] at p
    refine h.run A outer s H args us vs Q E ⟨W.S, []⟩ ds [] hr e0 hl hb rv ok.none r0 ?_
    rw [hF]
    intro W' v H' g o r'
    obtain ⟨g2, o2⟩ := Go.back ok g o
    refine p ⟨W'.S, W.io⟩ v H' g2 o2 ?_
    have r2 := r'.cut cd
    rw [List.take_zero] at r2
    exact r2.mono Le.io0
   ·rw [if_neg cd] at p
    exact plain p
  | ex cc fs μ1 =>
   rw [hF] at p
   dsimp only at p
   by_cases cd : D.closedF 0 fs = true
   ·rw [if_pos cd] at p
    refine h.run A outer s H args us vs Q E ⟨W.S, []⟩ ds [] hr e0 hl hb rv ok.none r0 ?_
    rw [hF]
    intro W' H' d g o x
    obtain ⟨g2, o2⟩ := Go.back ok g o
    refine p ⟨W'.S, W.io⟩ H' d g2 o2 ?_
    have x2 := x.cut cd
    rw [List.take_zero] at x2
    rcases x2 with z | ⟨a, ns, vs', ds', z1, z2, z3, z4, z5⟩
    ·exact .inl z
    ·exact .inr ⟨a, ns, vs', ds', z1, z2, z3, z4, z5.mono Le.io0⟩
   ·rw [if_neg cd] at p
    exact plain p
  | bad =>
   rw [hF] at p
   exact p.elim
 ·rw [if_neg c] at p
  exact plain p
end
end DL
/-! DL107: repr of a list, of a tuple, with an invariant: called by itself, and below another repr. -/
namespace DL
open PySem PySem.Builtin PySem.Builtin.List
/-- of whose repr is under way, a is none -/
def NoG (g : List Code) (a : Addr) : Prop := ∀ id v rest kw, Code.builtin id ⟨v :: rest, kw⟩ ∈ g → v ≠ .ref a
theorem NoG.nil (a : Addr) : NoG [] a := fun _ _ _ _ h => nomatch h
theorem NoG.cons {g : List Code} {a b : Addr} {id : String} {rest : List Value} {kw : List (Str × Value)} (h : NoG g b) (hne : a ≠ b) : NoG (.builtin id ⟨.ref a :: rest, kw⟩ :: g) b := fun id' v rest' kw' hm => by
 rcases List.mem_cons.mp hm with e | e
 ·injection e with e1 e2
  injection e2 with e3 e4
  injection e3 with e5 e6
  rw [e5]
  exact fun q => hne (by injection q)
 ·exact h id' v rest' kw' e
section
variable {prog : Program} {w : World} {A : Around} {a : Addr} {x : Value} {l : List Value} {ts : List Str} {base n : Nat} {o : Obj} {g : List Code} {s : Shared} {R : Result → Shared → Prop}
theorem units_rl (A : Around) (P : Addr) (i n : Int) : (A.under (rlCode a P i n)).units = A.units + 1 := units_under_list_loop A _
end
end DL
/-! DL108: repr of lists, tuples, with instances that have an own __repr__. -/
namespace DL
open PySem L2 PySem.Spec PyProof.Rows
/-! ### no list holds itself -/
def Edge (h : Heap) (a b : Addr) : Prop := ∃ o its n, h.get? a = some o ∧ (o.cls = .type "list" ∨ o.cls = .type "tuple") ∧ o.data = .seq its n ∧ Value.ref b ∈ its.toList
inductive Ins (h : Heap) : Addr → Addr → Prop
 | one {a b : Addr} : Edge h a b → Ins h a b
 | more {a b c : Addr} : Ins h a b → Edge h b c → Ins h a c
theorem Ins.first {h : Heap} {a c : Addr} (z : Ins h a c) : ∃ b, Edge h a b ∧ (b = c ∨ Ins h b c) := by
 induction z with
 | one e => exact ⟨_, e, .inl rfl⟩
 | more _ e ih =>
  obtain ⟨b, h1, h2⟩ := ih
  refine ⟨b, h1, .inr ?_⟩
  rcases h2 with rfl | h2
  ·exact .one e
  ·exact .more h2 e
def short (t : Str) : Option Str := if t.length ≤ 1000000 then some t else none
/-! ### room below a repr -/
section
variable {A : Around} {k : Nat} {a : Addr} {outer : List Env}
theorem rl_depth (P : Addr) (i n : Int) : (A.under (rlCode a P i n)).depth ≤ A.depth + 1 := by
 first | (show A.depth ≤ A.depth + 1; omega) | (show A.depth + 1 ≤ A.depth + 1; omega) | simp [rlCode, Around.under, Code.weight, Code.isCreation, Code.isGuard, Code.isCaller, Code.frames, Code.isFrame, guardIds]
theorem Room.rl (r : Room (k + 1) A) (P : Addr) (i n : Int) : Room k (A.under (rlCode a P i n)) :=
 ⟨r.hd, by have := r.dp; have := rl_depth (A := A) (a := a) P i n; omega, by have := r.un; rw [units_rl]; omega⟩
def rtCode (a : Addr) (b : Nat) : Code := .builtin "tuple.__repr__.under" ⟨[.ref a, rawInt b], []⟩
theorem rt_depth (b : Nat) : (A.under (rtCode a b)).depth ≤ A.depth + 1 := by
 first | (show A.depth ≤ A.depth + 1; omega) | (show A.depth + 1 ≤ A.depth + 1; omega) | simp [rtCode, Around.under, Code.weight, Code.isCreation, Code.isGuard, Code.isCaller, Code.frames, Code.isFrame, guardIds]
theorem Room.rt (r : Room (k + 1) A) (b : Nat) : Room k (A.under (rtCode a b)) :=
 ⟨r.hd, by have := r.dp; have := rt_depth (A := A) (a := a) b; omega, by have := r.un; rw [show (A.under (rtCode a b)).units = A.units + 1 from units_under_tuple_repr_under A _]; omega⟩
end
end DL
/-! DL109: repr of lists, tuples, with instances that have an own __repr__: the rule. -/
namespace DL
open PySem L2 PySem.Spec PyProof.Rows
section
variable {X : Cx} {C k : Nat} {f : Addr} {fd : FuncData} {ps : List Str} {F : List D → Mu → R D} {pins0 : List (Addr × Obj)} {σ : L2.St} {H0 : Hp} {s0 : Shared} {W0 : Wd} {μ : Mu}
/-- what a shown thing leaves -/
def Left (X : Cx) (pins : List (Addr × Obj)) (σ : L2.St) (W0 : Wd) (H0 : Hp) (μ : Mu) (s : Shared) : Prop := ∃ H W, Inv X pins σ H s ∧ Go W0 H0 W H ∧ Ok X.K W H μ
theorem Left.tok {pins : List (Addr × Obj)} {s : Shared} (h : Left X pins σ W0 H0 μ s) (t : Nat) : Left X pins σ W0 H0 μ { s with toks := t } := by
 obtain ⟨H, W, I, g, ok⟩ := h
 exact ⟨H, W, I.tok t, g, ok⟩
/-- the list of texts, at P, with its content -/
def Writ (X : Cx) (pins : List (Addr × Obj)) (σ : L2.St) (W0 : Wd) (H0 : Hp) (μ : Mu) (P : Addr) (acc : Array Value) (s : Shared) : Prop := ∃ H W c, Inv X pins σ H s ∧ Go W0 H0 W H ∧ Ok X.K W H μ ∧ s.heap.get? P = some (rlObj acc c) ∧ FpOk X pins H P
theorem Writ.left {pins : List (Addr × Obj)} {P : Addr} {acc : Array Value} {s : Shared} (h : Writ X pins σ W0 H0 μ P acc s) : Left X pins σ W0 H0 μ s := by
 obtain ⟨H, W, c, I, g, ok, _⟩ := h
 exact ⟨H, W, I, g, ok⟩
theorem Writ.push {pins : List (Addr × Obj)} {P : Addr} {acc : Array Value} {s : Shared} (h : Writ X pins σ W0 H0 μ P acc s) (v : Value) (tk : Tok) : Writ X pins σ W0 H0 μ P (acc.push v) { s with heap := s.heap.update P (Obj.mapSeq (·.push v)), toks := tk } := by
 obtain ⟨H, W, c, I, g, ok, hp, fp⟩ := h
 have e : (s.heap.update P (Obj.mapSeq (·.push v))).get? P = some (rlObj (acc.push v) (if (acc.push v).size == acc.size then c else c + 1)) := Heap.get?_update_self (Obj.mapSeq (·.push v)) hp rfl
 refine ⟨H, W, _, ?_, g, ok, e, fp⟩
 refine I.turnedL (ch := [P]) (fun b o hb e => ?_) fun b hb => by rw [List.mem_singleton.mp hb]; exact fp
 exact (Heap.get?_update_other _ _ (fun z : P = b => hb (by rw [z]; simp))).trans e
theorem Writ.pin {pins : List (Addr × Obj)} {P : Addr} {acc : Array Value} {s : Shared} (h : Writ X pins σ W0 H0 μ P acc s) : ∃ pins', Left X pins' σ W0 H0 μ s ∧ ∀ s', Left X pins' σ W0 H0 μ s' → Writ X pins σ W0 H0 μ P acc s' := by
 obtain ⟨H, W, c, I, g, ok, hp, fp⟩ := h
 refine ⟨pins ++ pinsAt [P] s.heap, ⟨H, W, I.pinned (fun b hb => by rw [List.mem_singleton.mp hb]; exact fp) (fun b hb => by
  rw [List.mem_singleton.mp hb]
  exact ⟨_, hp, fun v z => nomatch z⟩), g, ok⟩, fun s' L => ?_⟩
 obtain ⟨H2, W2, I2, g2, ok2⟩ := L
 have q := I2.pin (P, rlObj acc c) (List.mem_append_right _ (List.mem_append_right _ (mem_pinsAt (by simp) hp)))
 exact ⟨H2, W2, c, I2.unpinned, g2, ok2, q.1, q.2.1, fp.2⟩
end
end DL
/-! DL112: dict(xs) of a list of pairs, the keys tuples of whole numbers. -/
namespace DL
open PySem L2 PySem.Spec PyProof.Rows
def mergeT : List (List Key × D) → List (List Key) × List D → List (List Key) × List D
 | [], q => q
 | p :: ps, q => mergeT ps (putT q.1 q.2 p.1 p.2)
/-- what such a dict is, but for the heap -/
structure DtP (K : PySem.W.Frag) (W : Wd) (ks : List (List Key)) (ds : List D) (xs : List (List Key × Addr × Value)) (vs : List V) : Prop where
 key : ks = xs.map (·.1)
 whole : ∀ x ∈ xs, ∀ k ∈ x.1, ∃ i, k = Sum.inl i
 at_ : ∀ x ∈ xs, SqT K W.S x.2.1 (x.1.map kV)
 val : Vals vs (xs.map (·.2.2))
 rep : Reps K W vs ds
section
variable {K : PySem.W.Frag} {W : Wd}
theorem DtP.put {ks : List (List Key)} {ds : List D} {xs : List (List Key × Addr × Value)} {vs : List V} {v : V} {u : Value} {d : D} {b : Addr} {k : List Key} (t : DtP K W ks ds xs vs) (hb : SqT K W.S b (k.map kV)) (hk : ∀ x ∈ k, ∃ i, x = Sum.inl i) (rv : RelV v u) (rd : Rep K W v d) :
  ∃ vs', DtP K W (putT ks ds k d).1 (putT ks ds k d).2 (storedH xs k b u) vs' := by
 have lk := lookT_rep (K := K) k t.val t.rep
 rw [← t.key] at lk
 unfold putT
 cases hl : lookT ks ds k with
 | some d0 =>
  rw [hl] at lk
  obtain ⟨p, v0, e1, _, _⟩ := lk
  have es : storedH xs k b u = xs.map (putAt k u) := storedH_old e1 b u
  rw [es]
  obtain ⟨vs', h1, h2⟩ := putAt_vals (K := K) k rv rd t.val t.rep
  simp only [Option.isSome_some, if_true]
  refine ⟨vs', by rw [putAt_keys]; exact t.key, fun x hx => ?_, fun x hx => ?_, h1, by rw [t.key]; exact h2⟩
  ·obtain ⟨y, hy, rfl⟩ := List.mem_map.mp hx
   have : (putAt k u y).1 = y.1 := by simp only [putAt]; split <;> rfl
   rw [this]
   exact t.whole y hy
  ·obtain ⟨y, hy, rfl⟩ := List.mem_map.mp hx
   have e1 : (putAt k u y).1 = y.1 := by simp only [putAt]; split <;> rfl
   have e2 : (putAt k u y).2.1 = y.2.1 := by simp only [putAt]; split <;> rfl
   rw [e1, e2]
   exact t.at_ y hy
 | none =>
  rw [hl] at lk
  have lk : atKey xs k = none := lk
  have es : storedH xs k b u = xs ++ [(k, b, u)] := storedH_new lk b u
  rw [es]
  simp only [Option.isSome_none, Bool.false_eq_true, if_false]
  refine ⟨vs ++ [v], by rw [List.map_append, t.key]; rfl, fun x hx => ?_, fun x hx => ?_, by rw [List.map_append]; exact t.val.append (.cons rv .nil), t.rep.app (.cons rd .nil)⟩
  ·rcases List.mem_append.mp hx with z | z
   ·exact t.whole x z
   ·rw [List.mem_singleton.mp z]; exact hk
  ·rcases List.mem_append.mp hx with z | z
   ·exact t.at_ x z
   ·rw [List.mem_singleton.mp z]; exact hb
theorem DtP.all : ∀ (prs : List (List Key × Addr × Value)) (ps : List (List Key × D)) (us : List V) {ks : List (List Key)} {ds : List D} {xs : List (List Key × Addr × Value)} {vs : List V}, DtP K W ks ds xs vs → prs.map (·.1) = ps.map (·.1) → Vals us (prs.map (·.2.2)) → Reps K W us (ps.map (·.2)) →
  (∀ q ∈ prs, SqT K W.S q.2.1 (q.1.map kV) ∧ ∀ x ∈ q.1, ∃ i, x = Sum.inl i) → ∃ vs', DtP K W (mergeT ps (ks, ds)).1 (mergeT ps (ks, ds)).2 (storedAllH xs prs) vs'
 | [], [], _, _, _, _, vs, t, _, _, _, _ => ⟨vs, t⟩
 | [], _ :: _, _, _, _, _, _, _, h, _, _, _ => by simp at h
 | _ :: _, [], _, _, _, _, _, _, h, _, _, _ => by simp at h
 | q :: prs, p :: ps, us, ks, ds, xs, vs, t, h, hv, hr, hq => by
  rw [List.map_cons] at hv hr
  cases hv with
  | cons v1 v2 =>
   cases hr with
   | cons r1 r2 =>
    rw [List.map_cons, List.map_cons, List.cons.injEq] at h
    obtain ⟨a1, a2⟩ := hq q (by simp)
    obtain ⟨vs1, t1⟩ := t.put a1 a2 v1 r1
    rw [h.1] at t1
    have e : storedAllH xs (q :: prs) = storedAllH (storedH xs p.1 q.2.1 q.2.2) prs := by
     rw [← h.1]
     rfl
    rw [e]
    exact DtP.all prs ps _ t1 h.2 v2 r2 fun x hx => hq x (List.mem_cons_of_mem _ hx)
end
section
variable {X : Cx} {E : WX} {pins : List (Addr × Obj)} {σ : L2.St} {H : Hp} {s : Shared}
def trip (ts : List (Addr × List Key × Addr × V)) (us : List Value) : List (List Key × Addr × Value) := (ts.zip us).map fun z => (z.1.2.1, z.1.2.2.1, z.2)
end
end DL
/-! DL118: the laws' draws where cells may hold handles of elder cells. -/
namespace DL
open PySem L2
/-- each cell is closed at the memory's length -/
def AllH (μ : Mu) : Prop := ∀ m ∈ μ, ∀ n, μ.length ≤ n → m.closed n = true
theorem AllC.h {μ : Mu} (h : AllC μ) : AllH μ := fun m hm n _ => h m hm n
theorem AllH.mu {μ : Mu} (h : AllH μ) : closedMu μ.length μ = true := by
 unfold closedMu
 rw [List.all_eq_true]
 exact fun m hm => h m (List.mem_of_mem_take hm) _ (Nat.le_refl _)
theorem AllH.app {μ ex : Mu} (h : AllH μ) (h2 : AllC ex) : AllH (μ ++ ex) := fun m hm n hn => by
 rw [List.length_append] at hn
 rcases List.mem_append.mp hm with z | z
 ·exact h m z n (by omega)
 ·exact h2 m z n
theorem AllH.set {μ : Mu} (h : AllH μ) (l : Nat) {m : MO} (hm : ∀ n, m.closed n = true) : AllH (μ.set l m) := fun k hk n hn => by
 rw [List.length_set] at hn
 rcases List.mem_or_eq_of_mem_set hk with z | z
 ·exact h k z n hn
 ·rw [z]; exact hm n
structure PoolH (μ : Mu) (l : Nat) : Prop where
 ex : ∃ a b : Int, μ[l]? = some (.lst [.int a, .int b]) ∧ 0 ≤ b ∧ b < 2147483648
 cl : AllH μ
structure StepH (l : Nat) (μ μ' : Mu) : Prop where
 pool : PoolH μ' l
 len : μ'.length = μ.length
 at_ : ∀ i, i ≠ l → μ'[i]? = μ[i]?
theorem StepH.refl {l : Nat} {μ : Mu} (h : PoolH μ l) : StepH l μ μ := ⟨h, rfl, fun _ _ => rfl⟩
theorem StepH.trans {l : Nat} {μ μ1 μ2 : Mu} (a : StepH l μ μ1) (b : StepH l μ1 μ2) : StepH l μ μ2 := ⟨b.pool, b.len.trans a.len, fun i h => (b.at_ i h).trans (a.at_ i h)⟩
end DL
/-! DL119: a changed list == []. -/
namespace DL
open PySem L2 PySem.Spec PyProof.Rows
open PySem.SeqAt
def isNilD : D → Bool
 | .lst [] => true
 | _ => false
def eqNil : D → D → Mu → R D := fun x y μ => match lstAt μ x, y with
 | some xs, .lst [] => .ok (.bl xs.isEmpty) μ
 | _, _ => .bad
def dEqC : D → D → Mu → R D := fun x y μ => if ((lstAt μ x).isSome && isNilD y) = true then eqNil x y μ else dEqM x y μ
section
variable {X : Cx} {E : WX}
theorem opx_eqNil (hu : X.A.units + 64 < cLine) : OpX X E (compareOp .Eq) eqNil := by
 intro pins s σ H x y v u Q I rx ry q
 obtain ⟨E', W, μ, dx, dy, ok, r1, r2, p⟩ := q
 unfold eqNil at p
 split at p
 ·rename_i xs e1
  unfold lstAt at e1
  split at e1
  ·rename_i l
   split at e1
   ·rename_i ys e2
    cases e1
    cases r1 with
    | @hdl a _ ha =>
     cases r2 with
     | @lst b us _ z2 h2 q2 =>
      cases q2
      cases rx
      cases ry
      obtain ⟨o, ho, vs, rfl, rs⟩ := ok.cell _ a _ ha e2
      obtain ⟨its, v1, ht, _⟩ := I.list (show SqL X.K H a vs from .inl (.inl ho))
      obtain ⟨its', v2, ht', _⟩ := I.list (same_lq ok.sub h2).sq
      have n2 : its' = [] := by cases v2; rfl
      subst n2
      have fin : EP X pins σ Q (.bool xs.isEmpty) s := ⟨.bl xs.isEmpty, H, I, rfl, p W _ H (Go.refl _ _) ok (.bl _)⟩
      show wpAny _ _ (richCompare .Eq (.ref a) (.ref b)) _ _ _
      have hl : its.length = xs.length := by rw [← v1.length, rs.length]
      cases xs with
      | nil =>
       refine rcIn_lists (e := fun _ => true) ht.isList ht'.isList ?_ (by omega) ?_ ?_
       ·simpa using hl
       ·intro j h1 h2
        simp at h2
       ·simpa [hl] using fin
      | cons d ds =>
       have ne : (its.toArray.size != ([] : List Value).toArray.size) = true := by
        have : its ≠ [] := fun e => by rw [e] at hl; simp at hl
        simpa using this
       exact RcAt.lists_lengths ht.isList ht'.isList ne (by omega) X.prog X.w X.xe _ (by simpa using fin)
   ·cases e1
  ·cases e1
 ·exact p.elim
theorem opx_eqC (hu : X.A.units + 64 < cLine) : OpX X E (compareOp .Eq) dEqC := opx_if (fun x y μ => (lstAt μ x).isSome && isNilD y) (opx_eqNil hu) (opx_eqM hu)
end
end DL
/-! DL127: a list that changes, also one within a tuple, is lent to a def or to a built-in that only reads it. -/
namespace DL
open PySem PySem.Spec PyProof.Rows L2
mutual
/-- the cell l read as a list -/
def putH (l : Nat) (xs : List D) : D → D
 | .hdl k => if k = l then .lst xs else .hdl k
 | .tup ds => .tup (putHL l xs ds)
 | d => d
def putHL (l : Nat) (xs : List D) : List D → List D
 | [] => []
 | d :: ds => putH l xs d :: putHL l xs ds
end
theorem putHL_len (l : Nat) (xs : List D) : ∀ ds : List D, (putHL l xs ds).length = ds.length
 | [] => rfl
 | d :: ds => by rw [putHL, List.length_cons, List.length_cons, putHL_len l xs ds]
section
variable {K : PySem.W.Frag} {W : Wd} {a : Addr} {l : Nat} {ws : List V} {xs : List D}
theorem rep_other (le0 : Le ⟨W.S, []⟩ ⟨upd W.S a (.lst ws), []⟩) {v : V} {d : D} (r : Rep K W v d) (c : d.closed 0 = true) : Rep K ⟨upd W.S a (.lst ws), []⟩ v d := by
 have c1 := Rep.cut c r
 rw [List.take_zero] at c1
 exact c1.mono le0
mutual
theorem Rep.sub (le0 : Le ⟨W.S, []⟩ ⟨upd W.S a (.lst ws), []⟩) (ha : W.io[l]? = some a) (rl : Rep K ⟨upd W.S a (.lst ws), []⟩ (.ref a) (.lst xs)) : ∀ {v : V} {d : D}, Rep K W v d → (putH l xs d).closed 0 = true → Rep K ⟨upd W.S a (.lst ws), []⟩ v (putH l xs d)
 | _, _, .non, _ => .non
 | _, _, .bl b, _ => .bl b
 | _, _, .int i, _ => .int i
 | _, _, .str x z, _ => .str x z
 | _, _, .tup z q r, c => by
  simp only [putH, D.closed] at c ⊢
  exact .tup (by rw [putHL_len]; exact z) (same_t le0.s q) (Reps.sub le0 ha rl r c)
 | _, _, .lst z q r, c => rep_other le0 (.lst z q r) c
 | _, _, @Rep.hdl _ _ b k h, c => by
  unfold putH at c ⊢
  by_cases e : k = l
  ·subst e
   rw [if_pos rfl]
   rw [ha] at h
   cases h
   exact rl
  ·rw [if_neg e] at c
   simp [D.closed] at c
 | _, _, .cst v, _ => .cst v
 | _, _, .glo c, _ => .glo c
 | _, _, .obj q n r, c => rep_other le0 (.obj q n r) c
 | _, _, .exc q r, c => rep_other le0 (.exc q r) c
 | _, _, .dtc q v r, c => rep_other le0 (.dtc q v r) c
theorem Reps.sub (le0 : Le ⟨W.S, []⟩ ⟨upd W.S a (.lst ws), []⟩) (ha : W.io[l]? = some a) (rl : Rep K ⟨upd W.S a (.lst ws), []⟩ (.ref a) (.lst xs)) : ∀ {vs : List V} {ds : List D}, Reps K W vs ds → D.closedL 0 (putHL l xs ds) = true → Reps K ⟨upd W.S a (.lst ws), []⟩ vs (putHL l xs ds)
 | _, _, .nil, _ => .nil
 | _, _, .cons r t, c => by
  simp only [putHL, D.closedL, Bool.and_eq_true] at c ⊢
  exact .cons (Rep.sub le0 ha rl r c.1) (Reps.sub le0 ha rl t c.2)
end
end
end DL
/-! DL132: enumerate(a list, start=1). -/
namespace DL
open PySem L2 PySem.Spec PyProof.Rows
/-- a list's items, numbered from 1, each pair new -/
def Itel (K : PySem.W.Frag) (a : Addr) (n : Nat) : It :=
 ⟨fun i H => ∃ (xs : List V) (x : V), SqL K H a xs ∧ xs.length = n ∧ xs[i]? = some x, fun i H v H' => ∃ T x, v = .ref T ∧ H T = none ∧ H' = upd H T (.tup [.int ((i : Nat) + 1), x]) ∧ ∀ xs, SqL K H a xs → xs[i]? = some x, fun i H => ∃ xs : List V, SqL K H a xs ∧ xs.length = n ∧ n ≤ i⟩
theorem turn_enumL {P : Program} {w : World} {K : PySem.W.Frag} {elts : List Expr} {kk : Nat} {tpos : Pos} (a e it : Addr) (n : Nat) :
  Turn P w K (.Tuple elts kk tpos) (Itel K a n) [e, it] e (fun i h => i ≤ n ∧ (∃ old, IsEnum h e it (((i : Nat) : Int) + 1) old) ∧ h.IsListIter it a i ∧ e ≠ it ∧ a ≠ it ∧ a ≠ e) where
 mem := by simp
 obj := fun i h st b hb => by
  obtain ⟨_, ⟨old, he⟩, ⟨o, ho, hc, hd⟩, _⟩ := st
  have q : b = e ∨ b = it := by simpa using hb
  rcases q with z | z
  ·rw [z]
   exact ⟨_, he, fun v q => nomatch q⟩
  ·rw [z]
   exact ⟨o, ho, fun v q => by rw [hd] at q; cases q⟩
 keep := fun i h h' st k => by
  obtain ⟨hi, ⟨old, he⟩, ⟨o, ho, r⟩, hne⟩ := st
  exact ⟨hi, ⟨old, k e (by simp) _ he⟩, ⟨o, k it (by simp) o ho, r⟩, hne⟩
 item := by
  intro X hP hw hK hc i pins s σ H E I hf st hg
  subst hP hw hK
  obtain ⟨hi, ⟨old, he⟩, hit, hne, hai, hae⟩ := st
  obtain ⟨xs, x, hq, hl, hx⟩ := hg
  obtain ⟨its, rv, p', hz⟩ := I.list hq
  have p : s.heap.IsList a its.toArray := p'.isList
  obtain ⟨u, hu, ru⟩ := rv.get hx
  have sz : its.toArray.size = n := by rw [List.size_toArray, ← rv.length, hl]
  have lt : i < its.toArray.size := by
   rw [sz, ← hl]
   exact (List.getElem?_eq_some_iff.mp hx).1
  have hel : e < s.heap.objs.size := Heap.lt_size he
  have hil : it < s.heap.objs.size := by
   obtain ⟨_, q, _⟩ := hit
   exact Heap.lt_size q
  refine wpAny_pyNext_enum_itemC (Draws.list (A := X.A.in1) (I.ok.hd hc) it a hai its.toArray) he ⟨hit, p⟩ lt hne (by simp [hne, hae.symm]) fun u' h' tk hu' ho hit' hT hsz hk => ?_
  have eu : u' = u := by
   have q : its[i]? = some u' := by simpa using hu'
   rw [hu] at q
   exact (Option.some.inj q).symm
  subst eu
  refine ⟨_, rfl, wpAny_letOwnedTupleGo_enum (s := { s with heap := h', toks := tk + 1 }) ho fun h'' he' sb => ?_⟩
  have hT2 : h''.get? s.heap.objs.size = some { cls := .type "tuple", data := .seq #[.int ((i : Nat) + 1) tk, u'] } := (sb.2 _ (Nat.ne_of_gt hel)).trans hT
  have new : ObjOk X.prog X.w (upd H s.heap.objs.size (.tup [.int ((i : Nat) + 1), x])) h'' s.heap.objs.size (.tup [.int ((i : Nat) + 1), x]) :=
   ⟨by show 2 ≤ sizeLine; decide, [.int ((i : Nat) + 1) tk, u'], .cons ⟨_, rfl⟩ (.cons ru .nil), ⟨_, hT2, rfl, _, rfl⟩⟩
  have I1 : Inv X pins σ (upd H s.heap.objs.size (.tup [.int ((i : Nat) + 1), x])) { s with heap := h'', toks := tk + 1 } :=
   I.turnedNew (ch := [e, it]) (fun b ob hb q => (sb.2 b (fun z => hb (by simp [z]))).trans (hk b ob (fun z => hb (by simp [z])) (fun z => hb (by simp [z])) q)) hf (Nat.le_refl _) new
  refine ⟨.ref s.heap.objs.size, _, I1, rfl, ⟨_, x, rfl, I.hok.fresh (Nat.le_refl _), rfl, fun ys hy => by rw [I.list_inj hy hq]; exact hx⟩, ⟨by omega, ⟨u', ?_⟩, ?_, hne, hai, hae⟩, fun b hb => ?_⟩
  ·have e1 : ((i + 1 : Nat) : Int) + 1 = (i : Int) + 1 + 1 := by omega
   rw [e1]
   exact he'
  ·obtain ⟨o, ho2, r⟩ := hit'.1
   exact ⟨o, (sb.2 it (Ne.symm hne)).trans ho2, r⟩
  ·have hb' : b < s.heap.objs.size := by
    have q : b = e ∨ b = it := by simpa using hb
    rcases q with z | z
    ·rw [z]; exact hel
    ·rw [z]; exact hil
   rw [upd_ne (Nat.ne_of_lt hb')]
   exact (hf b hb).1
 done := by
  intro X hP hw hK hc i pins s σ H E I hf st hg
  subst hP hw hK
  obtain ⟨hi, ⟨old, he⟩, hit, hne, hai, hae⟩ := st
  obtain ⟨xs, hq, hl, ge⟩ := hg
  obtain ⟨its, rv, p', _⟩ := I.list hq
  have p : s.heap.IsList a its.toArray := p'.isList
  have sz : its.toArray.size = n := by rw [List.size_toArray, ← rv.length, hl]
  have ei : i = its.toArray.size := by omega
  subst ei
  obtain ⟨f0, f1, f2, f3, f4, f5⟩ := hf it (by simp)
  exact wpAny_pyNext_enum_endD (Draws.list (A := X.A.in1) (I.ok.hd hc) it a hai its.toArray) he ⟨hit, p⟩ fun h' eb => ⟨rfl, I.turned (t' := s.toks) (fun b o hb q => eb b o hb q) f0 f1 f3 f4 f5⟩
 self := fun A i s Q E st h => let ⟨_, ⟨_, he⟩, _⟩ := st; wpAny_pyIter_enum he h
def iEnumL (K : PySem.W.Frag) (ta : TA) : TI := fun σ H R => ta σ H fun vs H1 => ∃ a xs, vs = [.ref a] ∧ SqL K H1 a xs ∧ R (Itel K a xs.length) H1
theorem pi_enumL {X : Cx} {e : Expr} {ta : TA} {p pos tpos kp cp : Pos} {j : Nat} {elts : List Expr} {kk : Nat} (hg : Gl X "enumerate") (hm : X.mg "enumerate" = none) (ha : PA X [e] ta)
  (he : backTo pos (starEach [e] X.env) = (false, eval e X.env) :: backTo pos (starEach [] X.env) := by rfl) (hpl : (backTo pos (starEach [e] X.env)).any (·.1) = false := by rfl) :
  PI X (.Tuple elts kk tpos) (.Call (.Name "enumerate" p) [e] [⟨some "start", .Constant (.int 1) j cp, kp⟩] pos) (iEnumL X.K ta) := by
 refine ⟨fun pins s σ H R I h => ?_⟩
 refine wpAny_Call_Name_kw (ld_blt I hg hm PyProof.Rows.boot_enumerate ?_)
 refine callWith_typeK (thn (ha.run pos pins s σ H _ I h) fun us s1 ⟨vs, H1, I1, r1, q1⟩ => ?_) he hpl
 refine kws_cons (wpAny_Constant_int (kws_nil ?_))
 obtain ⟨a, xs, ex, hq, q⟩ := q1
 subst ex
 obtain ⟨u, rfl, ru⟩ := r1.one
 cases ru
 have I1' := I1.tok (s1.toks + 1)
 obtain ⟨its, rv, p', hz⟩ := I1'.list hq
 have ht : s1.heap.IsList a its.toArray := p'.isList
 have al : a < s1.heap.objs.size := by
  obtain ⟨o, ho, _⟩ := ht
  exact Heap.lt_size ho
 show wpAny _ _ (call (Value.type "enumerate") [.ref a] [(Str.ofString "start", .int 1 _)]) _ _ _
 refine enum_begins_start (begins_list a its.toArray) ht (by decide) (by decide) fun h' he hit hsz hk => wpAny_pyIter_enum he ?_
 have I2 : Inv X pins σ H1 { s1 with heap := h', toks := s1.toks + 1 } := I1'.kept (t' := s1.toks + 1) hk
 refine ⟨s1.heap.objs.size + 1, [s1.heap.objs.size + 1, s1.heap.objs.size], _, _, H1, rfl, I2, turn_enumL a (s1.heap.objs.size + 1) s1.heap.objs.size xs.length, ⟨Nat.zero_le _, ⟨.none, he⟩, ⟨_, hit, rfl, rfl⟩, Nat.succ_ne_self _, Nat.ne_of_lt al, Nat.ne_of_lt (Nat.lt_succ_of_lt al)⟩, fun b hb => ?_, q⟩
 have e' : b = s1.heap.objs.size + 1 ∨ b = s1.heap.objs.size := by simpa using hb
 have hle : s1.heap.objs.size ≤ b := by
  rcases e' with z | z
  ·rw [z]; exact Nat.le_add_right _ _
  ·rw [z]; exact Nat.le_refl _
 exact I1.fpOk hle (I1.hok.fresh hle)
theorem walk_enumL {K : PySem.W.Frag} {W : Wd} {a : Addr} {vs : List V} {ds : List D} (z : ds.length ≤ sizeLine) (h : SqL K W.S a vs) (r : Reps K W vs ds) : Walk K W (Itel K a vs.length) (enumD 1 ds) := by
 have hl := r.length
 refine ⟨by rw [enumD_len]; exact z, fun H i s hi => ?_, fun H i s hi => ⟨vs, same_l s h, rfl, by rw [enumD_len] at hi; omega⟩, fun H i x H' s y d e W1 μ l1 ok => ?_⟩
 ·rw [enumD_len] at hi
  obtain ⟨v, e, _⟩ := r.get (List.getElem?_eq_getElem hi)
  exact ⟨vs, v, same_l s h, rfl, e⟩
 ·obtain ⟨T, xv, rfl, hT, rfl, q⟩ := y
  have q2 := q vs (same_l s h)
  obtain ⟨xd, e3, r3⟩ := r.getV q2
  rw [enumD_get 1 ds i xd e3] at e
  cases e
  refine ⟨W1.new T (.tup [.int ((i : Nat) + 1), xv]), Go.new ok hT, ok.new hT, rep_tup ok hT (by show 2 ≤ sizeLine; decide) (.cons ?_ (.cons (r3.mono l1) .nil))⟩
  have : (1 : Int) + i = i + 1 := by omega
  rw [this]
  exact .int _
def itE1 (f : FA) : FA := fun ρ μ => (f ρ μ).bind fun ds μ1 => match ds with
 | [.lst xs] => .ok (enumD 1 xs) μ1
 | _ => .bad
theorem di_enum1 {X : Cx} {E : WX} {e : Expr} {pos p kp cp : Pos} {j : Nat} {fa : FA} {tpos : Pos} {elts : List Expr} {kk : Nat} (hm : X.mg "enumerate" = none) (ha : DA X E [e] fa) (hg : Gl X "enumerate" := by rfl)
  (he : backTo pos (starEach [e] X.env) = (false, eval e X.env) :: backTo pos (starEach [] X.env) := by rfl) (hpl : (backTo pos (starEach [e] X.env)).any (·.1) = false := by rfl) :
  DI X E (.Tuple elts kk tpos) (.Call (.Name "enumerate" p) [e] [⟨some "start", .Constant (.int 1) j cp, kp⟩] pos) (itE1 fa) := by
 refine pi_imp (pi_enumL hg hm ha he hpl) fun σ H Q ⟨W, ρ, μ, ok, en, p⟩ => ⟨W, ρ, μ, ok, en, ?_⟩
 unfold itE1 at p
 revert p
 cases fa ρ μ with
 | bad => exact fun p => p
 | ex c fs μ1 => exact fun p => p
 | ok ds μ1 =>
  intro p W1 vs H1 g o r
  rw [R.bind_ok] at p
  split at p
  ·rename_i xs
   cases r with
   | cons ra rr =>
    cases rr
    cases ra with
    | lst z h r => exact ⟨_, _, rfl, (same_lq o.sub h).sq, p W1 _ H1 g o (walk_enumL z h.sq r)⟩
  ·exact p.elim
end DL
/-! DL133: startswith, partition; x, *ys = a list. -/
namespace DL
open PySem L2 PySem.Spec PyProof.Rows
def mStarts : D → List D → Mu → R D := fun x ds μ => match x, ds with
 | .str a, [.str b] => .ok (.bl (Txt.startswith a b)) μ
 | _, _ => .bad
theorem mx_starts {X : Cx} {E : WX} : MtX X E "str.startswith" mStarts := mtx fun W H μ d ds x xs Q ok r rs p => by
 unfold mStarts at p
 split at p
 ·cases r
  cases rs with
  | cons r1 r2 =>
   cases r2
   cases r1
   exact ⟨_, mt_startswith, _, _, rfl, rfl, post_pure ok p (.bl _)⟩
 ·exact p.elim
def mPart : D → List D → Mu → R D := fun x ds μ => match x, ds with
 | .str a, [.str b] => if (b.length == 0) = false ∧ a.length ≤ 1000000 ∧ (Txt.partition a b).1.length ≤ 1000000 ∧ (Txt.partition a b).2.1.length ≤ 1000000 ∧ (Txt.partition a b).2.2.length ≤ 1000000 then .ok (.tup [.str (Txt.partition a b).1, .str (Txt.partition a b).2.1, .str (Txt.partition a b).2.2]) μ else .bad
 | _, _ => .bad
theorem mx_part {X : Cx} {E : WX} : MtX X E "str.partition" mPart := mtx fun W H μ d ds x xs Q ok r rs p => by
 unfold mPart at p
 split at p
 ·rename_i a b
  split at p
  ·rename_i hn
   cases r
   cases rs with
   | cons r1 r2 =>
    cases r2
    cases r1
    refine ⟨_, mt_partition, a, b, rfl, rfl, hn.1, le_line hn.2.1, fun q hq => p _ _ _ (Go.new ok hq) (ok.new hq) (rep_tup ok hq (by show 3 ≤ sizeLine; decide) ?_)⟩
    exact .cons (.str _ (le_line hn.2.2.1)) (.cons (.str _ (le_line hn.2.2.2.1)) (.cons (.str _ (le_line hn.2.2.2.2)) .nil))
  ·exact p.elim
 ·exact p.elim
/-- x, *ys = a list -/
def gStar (K : PySem.W.Frag) (t : TGs) : TG := fun v σ H Q => ∃ a x xs, v = .ref a ∧ SqL K H a (x :: xs) ∧ ∀ p, H p = none → t [x, .ref p] σ (upd H p (.lst xs)) Q
section
variable {X : Cx} {pos sp : Pos} {e r : Expr} {k : Nat}
theorem pg_star {t : TGs} (hc : X.calm = true) (h : PGs X [e, r] t) (hlen : (assignEach [e, .Starred r sp] X.env).length = 2 := by rfl) (hst : (assignEach [e, .Starred r sp] X.env).findIdx? (·.1) = some 1 := by rfl)
  (heq : (assignEach [e, .Starred r sp] X.env).map (·.2) = (assignEach [e, r] X.env).map (·.2) := by rfl) : PG X (.Tuple [e, .Starred r sp] k pos) (gStar X.K t) := by
 refine ⟨fun pins s σ H v u Q I r0 hw => ?_⟩
 obtain ⟨a, x, xs, e1, hq, hw⟩ := hw
 subst e1
 cases r0
 obtain ⟨its, rv, pl, hz⟩ := I.list hq
 have hl : s.heap.IsList a its.toArray := pl.isList
 cases rv with
 | @cons _ u0 _ us ru rus =>
  rw [PyProof.Rows.assign_Tuple]
  refine wpAny_bind (wpAny_standAt ?_)
  unfold unpack
  rw [hlen, hst, heq]
  refine wpAny_bind (wpAny_holding ?_)
  have hlt : a ≠ s.heap.objs.size := by obtain ⟨o, ho, _⟩ := hl; exact Nat.ne_of_lt (Heap.lt_size ho)
  have hsz : (u0 :: us).toArray.size = us.length + 1 := by simp
  have hz' : us.length + 1 ≤ sizeLine := by
   have q : xs.length + 1 ≤ sizeLine := hz
   rw [← rus.length]
   exact q
  unfold unpackItems
  refine wpAny_bind ?_
  unfold notIterableAtAll
  refine wpAny_bind (wpAny_specialOf hl.typeIs PySem.F.slot_list_iter.lookup ?_)
  refine wpAny_pure ?_
  simp only [Bool.false_eq_true, if_false]
  refine wpAny_bind (wpAny_holding (wpAny_pyIter_list hl ?_))
  refine wpAny_bind (wpAny_holding (PySem.W.kun_draw hlt 1 0 _ _ ⟨_, Heap.get?_push_size _ rfl, rfl, rfl⟩ (hl.push _) (by rw [hsz]; omega) fun h₁ hit₁ hs₁ => ?_))
  have hl₁ : h₁.IsList a (u0 :: us).toArray := (hl.push _).extBut hs₁.extBut hlt
  rw [Nat.zero_add] at hit₁
  have hit₁' := hit₁
  obtain ⟨oi, hoi, _⟩ := hit₁'
  have hl₁' := hl₁
  obtain ⟨ol, hol, _⟩ := hl₁'
  rw [List.drop_zero]
  have hfl : ((u0 :: us).toArray.toList.take 1) = [u0] := rfl
  rw [hfl]
  rw [if_neg (show ¬ (([u0] : List Value).length < 1) from Nat.lt_irrefl 1)]
  refine wpAny_bind (wpAny_holding (PySem.W.kun_collect (s := { s with heap := h₁ }) (T := "list_iterator") (.inr (.inr (.inl rfl))) (Walks.list (A := X.A.in1) (I.ok.hd hc) s.heap.objs.size a hlt (u0 :: us).toArray) (fun j u st => st.1.typeIs) (k := 1) (by rw [hsz]; omega) ⟨hit₁, hl₁⟩ (Heap.lt_size hoi) (Heap.lt_size hol) (fun h₂ tk hk => ?_) (by rw [hsz]; exact hz')))
  have hrl : ((u0 :: us).toArray.toList.drop 1) = us := rfl
  rw [hrl]
  show wpAny _ _ (if us.length < 0 then _ else _) _ _ _
  rw [if_neg (Nat.not_lt_zero _)]
  show wpAny _ _ (newList (us.take us.length) >>= fun d => pure ([u0] ++ [d] ++ us.drop us.length)) _ _ _
  rw [List.take_length, List.drop_length]
  have he : ∀ b o, s.heap.get? b = some o → h₂.get? b = some o := fun b o e => hk b o (Nat.ne_of_lt (Heap.lt_size e)) (hs₁.extBut b o (Nat.ne_of_lt (Heap.lt_size e)) (Heap.get?_push_of_some _ e))
  have I2 : Inv X pins σ H { s with heap := h₂, toks := tk } := I.kept (t' := tk) he
  refine wpAny_bind (wpAny_newList (wpAny_pure ?_) (by omega))
  have hf : H h₂.objs.size = none := I2.hok.fresh (Nat.le_refl _)
  have I3 : Inv X pins σ (upd H h₂.objs.size (.lst xs)) { s with heap := h₂.push { cls := .type "list", data := .seq us.toArray }, toks := tk } :=
   I2.laid (t' := tk) (fun b u e => Heap.get?_push_of_some _ e) (Nat.le_refl _) ⟨by show xs.length ≤ sizeLine; rw [rus.length]; omega, us, 0, rus, Heap.get?_push_size _ rfl⟩
  exact h.run pins _ σ _ [x, .ref h₂.objs.size] [u0, .ref h₂.objs.size] Q I3 (.cons ru (.cons rfl .nil)) (hw _ hf)
end
def gstar (i j : Nat) (f : FE) : FS := fun ρ μ => (f ρ μ).to ρ fun d μ1 => match d with
 | .lst (x :: xs) => .nx ((ρ.set i (some x)).set j (some (.lst xs))) μ1
 | _ => .bad
theorem ds_star (i j : Nat) {X : Cx} {E : WX} {x y : Str} {e : Expr} {p1 p2 sp pos pos' : Pos} {k : Nat} {f : FE} (hN : X.N.Nodup) (hc : X.calm = true) (he : DE X E e f) (hi : X.N[i]? = some x := by rfl) (hj : X.N[j]? = some y := by rfl)
  (hx : Loc X.env.scope x := by first | exact .inl rfl | exact .inr rfl) (hy : Loc X.env.scope y := by first | exact .inl rfl | exact .inr rfl)
  (hfx : X.fn x = true ∨ X.env.scope.names.lookup x = some .local := by first | exact .inl rfl | exact .inr rfl) (hfy : X.fn y = true ∨ X.env.scope.names.lookup y = some .local := by first | exact .inl rfl | exact .inr rfl)
  (hs : swapsWithSole [.Tuple [.Name x p1, .Starred (.Name y p2) sp] k pos'] e pos.line X.env = pure false := by rfl) (hw : swappedStores [.Tuple [.Name x p1, .Starred (.Name y p2) sp] k pos'] e X.env = pure none := by rfl)
  (h1 : (assignEach [.Tuple [.Name x p1, .Starred (.Name y p2) sp] k pos'] X.env).map (·.2) = [assign (.Tuple [.Name x p1, .Starred (.Name y p2) sp] k pos') X.env] := by rfl) :
  DS X E (.Assign [.Tuple [.Name x p1, .Starred (.Name y p2) sp] k pos'] e pos) (gstar i j f) := by
 have g : DGs X [.Name x p1, .Name y p2] [.nm i, .nm j] := dgs_cons (dg_name hN hi hx hfx) (dgs_cons (dg_name hN hj hy hfy) dgs_nil)
 refine ps_imp (ps_asg he (pg_star hc g) hs hw h1) fun Z σ H ⟨W, ρ, μ, ok, en, p⟩ => ?_
 refine seqS p ok en fun d μ1 W1 v H1 g1 o1 en1 r p1 => ?_
 split at p1
 ·rename_i x0 xs0
  cases r with
  | lst z h rs =>
   cases rs with
   | @cons v0 vs _ _ r0 rs =>
    refine ⟨_, v0, vs, rfl, (same_lq o1.sub h).sq, fun q hq => ?_⟩
    have z' : xs0.length ≤ sizeLine := Nat.le_trans (Nat.le_succ _) z
    have rl : Rep X.K (W1.new q (.lst vs)) (.ref q) (.lst xs0) := rep_lst o1 hq z' rs
    refine ⟨W1.new q (.lst vs), ρ, _, [x0, .lst xs0], μ1, o1.new hq, en1.mono (Go.new o1 hq).le, .cons (r0.mono (Go.new o1 hq).le) (.cons rl .nil), rfl, fun σ' en' b => ?_⟩
    exact p1 _ _ _ (Go.new o1 hq) (o1.new hq) en'
 ·exact p1.elim
end DL
/-! DL134: tables of the module: texts, and what they stand for. -/
namespace DL
open PySem L2 PySem.Spec PyProof.Rows
abbrev HoldsD (K : PySem.W.Frag) (d : D) (u : Value) : Prop := ∃ v, RelV v u ∧ ∀ W, Rep K W v d
theorem rowVD_ok {K : PySem.W.Frag} {u : Value} {d : D} (h : rowVD K u d = true) : HoldsD K d u := by
 unfold rowVD at h
 split at h
 ·have e := of_decide_eq_true h
  subst e
  exact ⟨.ref (cl K _), rfl, fun _ => .glo _⟩
 ·exact holdV_rep 8 _ _ h
theorem rowsB_ok {K : PySem.W.Frag} : ∀ {es : List DictEntry} {t : List (Str × D)}, rowsB K es t = true → KTD.Rows (HoldsD K) es t
 | [], [], _ => .nil
 | e :: es, (x, d) :: t, h => by
  unfold rowsB at h
  rw [Bool.and_eq_true, Bool.and_eq_true] at h
  obtain ⟨h1, h2, h3⟩ := h
  split at h1
  ·rename_i y tk hk
   have e1 := of_decide_eq_true h1
   subst e1
   exact .cons hk (rowVD_ok h2) (rowsB_ok h3)
  ·cases h1
 | [], _ :: _, h => by simp [rowsB] at h
 | _ :: _, [], h => by simp [rowsB] at h
structure TabK (K : PySem.W.Frag) (c : Nat) (t : List (Str × D)) : Prop where
 low : (cl K c == sysModules) = false
 at_ : ∃ o es ep, K.lookup (cl K c) = some o ∧ o.ExactDict ∧ o.data = .dict es ep ∧ KTD.Rows (HoldsD K) es.toList t
theorem tabKB_ok {K : PySem.W.Frag} {c : Nat} {t : List (Str × D)} (h : tabKB K c t = true) : TabK K c t := by
 unfold tabKB at h
 rw [Bool.and_eq_true] at h
 obtain ⟨h0, h⟩ := h
 refine ⟨by simpa using h0, ?_⟩
 split at h
 ·rename_i o e
  rw [Bool.and_eq_true, Bool.and_eq_true, Bool.and_eq_true] at h
  obtain ⟨h1, h2, h3, h4⟩ := h
  split at h4
  ·rename_i es ep hd
   exact ⟨o, es, ep, e, ⟨eq_of_beq h1, Option.isNone_iff_eq_none.mp h2, Array.eq_empty_of_size_eq_zero (of_decide_eq_true h3)⟩, hd, rowsB_ok h4⟩
  ·cases h4
 ·cases h
section
variable {X : Cx} {E : WX} {pins : List (Addr × Obj)} {σ : L2.St} {H : Hp} {s : Shared} {c : Nat} {t : List (Str × D)} {k : Str} {tk : Tok} {A : Around} {E' : Value → Shared → Prop}
theorem tabGet {Q : Option Value → Shared → Prop} (T : TabK X.K c t) (I : Inv X pins σ H s) (h1 : ∀ d u, KTD.datumAt k t = some d → HoldsD X.K d u → Q (some u) { s with toks := s.toks + 1 }) (h2 : KTD.datumAt k t = none → Q none { s with toks := s.toks + 1 }) :
  wpAny (model X.prog X.w) A (dictGet (cl X.K c) (.str k tk)) Q E' s := by
 obtain ⟨o, es, ep, ho', hc, hd, hr⟩ := T.at_
 have ho := I.kIn _ _ ho'
 unfold dictGet
 try with_reducible refine wpAny_holding ?_
 refine wpAny_bind (wpAny_pyHash_str (wpAny_bind (KTD.kt_dictFind_strs (s := { s with toks := s.toks + 1 }) ho hd (by obtain ⟨l⟩ := es; simpa using hr.exact) ?_)))
 have hq : Q (findBy (fun k v => v.isStr k) es k) { s with toks := s.toks + 1 } := by
  have hf : findBy (fun k v => v.isStr k) es k = (es.toList.find? fun e => e.key.isStr k).map (·.val) := by
   obtain ⟨l⟩ := es
   simp [findBy]
  rw [hf]
  cases hat : KTD.datumAt k t with
  | some d => obtain ⟨v, hv, hfl⟩ := hr.find_some hat; rw [hv]; exact h1 d v hat hfl
  | none => rw [hr.find_none hat]; exact h2 hat
 rw [findBy_of_findIdx?] at hq
 cases hi : es.findIdx? fun e => e.key.isStr k with
 | none => rw [hi] at hq; exact wpAny_pure hq
 | some i => rw [hi] at hq; exact wpAny_bind (wpAny_dictEntries (s := { s with toks := s.toks + 1 }) ho hd (wpAny_pure hq))
theorem tabType (T : TabK X.K c t) (I : Inv X pins σ H s) : s.TypeIs (.ref (cl X.K c)) "dict" := by
 obtain ⟨o, _, _, ho, hc, _⟩ := T.at_
 exact ⟨o, I.kIn _ _ ho, hc.1⟩
theorem tabNotIn {Q : Value → Shared → Prop} (T : TabK X.K c t) (I : Inv X pins σ H s) (h : Q (.bool (!(KTD.datumAt k t).isSome)) { s with toks := s.toks + 1 }) : wpAny (model X.prog X.w) A (compareOp .NotIn (.str k tk) (.ref (cl X.K c))) Q E' s := by
 have hT := tabType T I
 show wpAny _ _ (do return .bool (!(← contains (.ref (cl X.K c)) (.str k tk)))) Q E' s
 refine wpAny_bind ?_
 unfold contains
 try with_reducible refine wpAny_holding ?_
 refine wpAny_bind (wpAny_specialOf hT PySem.slot_dict_contains.lookup ?_)
 show wpAny _ _ (if (some (Value.builtin "dict.__contains__") == some Value.none) = true then _ else _) _ E' s
 rw [if_neg (by rw [beq_builtin_none]; exact Bool.false_ne_true)]
 refine wpAny_bind (wpAny_callSpecialUnlessNone?_slot (name := Str.ofString "__contains__") hT PySem.slot_dict_contains
  (wpAny_call_entry PySem.slot_dict_contains hT PySem.entry_dict_contains ?_ (PySem.args_dict_contains _ _)))
 show wpAny _ _ (dictGet (cl X.K c) (.str k tk) >>= _) _ _ s
 refine wpAny_bind (tabGet T I (fun d v ha _ => ?_) fun hn => ?_)
 ·rw [ha] at h
  show wpAny _ _ (ret (.bool true)) _ _ _
  exact wpAny_pure ⟨_, rfl, wpAny_truthy_bool (wpAny_pure h)⟩
 ·rw [hn] at h
  show wpAny _ _ (Builtin.Dict.pendingKey? (cl X.K c) (.str k tk) >>= _) _ _ _
  exact wpAny_bind (wpAny_pendingKey_other T.low (wpAny_pure ⟨_, rfl, wpAny_truthy_bool (wpAny_pure h)⟩))
def inG (b : Bool) (c : Nat) (t : List (Str × D)) : D → D → Mu → R D := fun x y μ => match x, y with
 | .str k, .glo c' => if c' = c then .ok (.bl ((KTD.datumAt k t).isSome == b)) μ else .bad
 | _, _ => .bad
theorem opx_notinG (T : TabK X.K c t) : OpX X E (compareOp .NotIn) (inG false c t) := by
 intro pins s σ H x y v u Q I rx ry q
 obtain ⟨E', W, μ, dx, dy, ok, r1, r2, p⟩ := q
 unfold inG at p
 split at p
 ·split at p
  ·rename_i e
   subst e
   cases r1
   cases r2
   obtain ⟨tk, rfl⟩ := rx
   cases ry
   refine tabNotIn T I ⟨.bl _, H, I.tok _, rfl, ?_⟩
   have q := post_pure ok p (.bl _)
   cases hh : (KTD.datumAt _ t).isSome <;> rw [hh] at q <;> exact q
  ·exact p.elim
 ·exact p.elim
def dIxG (c : Nat) (t : List (Str × D)) : D → D → Mu → R D := fun x i μ => match x, i with
 | .glo c', .str k => if c' = c then R.of (KTD.datumAt k t) μ else .bad
 | _, _ => .bad
theorem ixx_G (T : TabK X.K c t) : IxR X (rD X.K E (dIxG c t)) := by
 intro value slice pins s σ H x y v u Q I rx ry q hs
 obtain ⟨E', W, μ, dx, dy, ok, r1, r2, p⟩ := q
 unfold dIxG at p
 split at p
 ·rename_i c' k
  split at p
  ·rename_i e
   cases (show c = c' from e.symm)
   cases r1
   cases r2
   obtain ⟨tk, rfl⟩ := ry
   cases rx
   have hT := tabType T I
   cases hk : KTD.datumAt k t with
   | none =>
    rw [hk] at p
    exact p.elim
   | some d =>
    rw [hk] at p
    unfold subscriptTail
    refine wpAny_bind ?_
    rw [getitemInPython_of_ne hT.not_modules]
    refine wpAny_bind (wpAny_specialOf hT PySem.F.slot_dict_getitem.lookup ?_)
    have get : wpAny (model X.prog X.w) X.A (getItem (.ref (cl X.K c)) (.str k tk)) (fun r s3 => wpAny (model X.prog X.w) X.A (letTemporaryGo value (.ref (cl X.K c)) r >>= fun _ => pure r) (EP X pins σ Q) X.xe s3) X.xe s := by
     unfold getItem
     try with_reducible refine wpAny_holding ?_
     refine wpAny_bind (wpAny_sequenceKey hT (by decide) ?_)
     refine wpAny_bind (wpAny_callSpecial?_slot (name := Str.ofString "__getitem__") hT PySem.slot_dict_getitem
      (wpAny_call_entry PySem.slot_dict_getitem hT PySem.entry_dict_getitem ?_ (PySem.args_dict_getitem _ _)))
     show wpAny _ _ (dictGet (cl X.K c) (.str k tk) >>= _) _ _ s
     refine wpAny_bind (tabGet T I (fun d' w' ha hv => wpAny_pure ⟨w', rfl, wpAny_pure ?_⟩) fun hn => by rw [hk] at hn; cases hn)
     rw [hk] at ha
     cases ha
     obtain ⟨vv, rv, rp⟩ := hv
     exact wpAny_bind (wpAny_letTemporaryGo (wpAny_pure ⟨vv, H, I.tok _, rv, post_pure ok p (rp W)⟩))
    have fin : wpAny (model X.prog X.w) X.A (subscripted slice false (.ref (cl X.K c)) (.str k tk)) (fun r s₃ => wpAny (model X.prog X.w) X.A (letTemporaryGo value (.ref (cl X.K c)) r >>= fun _ => pure r) (EP X pins σ Q) X.xe s₃) X.xe s := by
     rw [hs]
     exact wpAny_operating get
    first
     | exact wpAny_pure (wpAny_bind fin)
     | exact wpAny_bind (wpAny_pure (wpAny_bind fin))
     | exact wpAny_bind fin
  ·exact p.elim
 ·exact p.elim
theorem de_ixG {a b : Expr} {fa fb : FE} {pos : Pos} (T : TabK X.K c t) (ha : DE X E a fa) (hb : DE X E b fb) (hs : PlainIx b := by exact fun _ _ => rfl) : DE X E (.Subscript a b pos) (dbin (dIxG c t) fa fb) := pe_imp (pe_ix (ixx_G T) ha hb hs) (tOp_of opd_D)
end
end DL
/-! DL135: replace (with written texts behind a written text, with the module's texts); d.update(a dict of new keys). -/
namespace DL
open PySem L2 PySem.Spec PyProof.Rows
def dreplC (y z : Str) (fo : FE) : FE := fun ρ μ => (fo ρ μ).bind fun x μ1 => match x with
 | .str a => if a.length + (a.length + 1) * z.length ≤ 1000000 ∧ (Txt.replace a y z).length ≤ 1000000 then .ok (.str (Txt.replace a y z)) μ1 else .bad
 | _ => .bad
section
variable {X : Cx} {E : WX} {o b : Expr} {fo fb : FE} {y z a : Str} {j k c : Nat} {c0 c1 apos pos p p' : Pos}
theorem pet_imp {e : Expr} {t t' : TE} (h : PET X e t) (i : ∀ σ H Q, t' σ H Q → t σ H Q) : PET X e t' := fun pins s σ H Q h0 I q => h pins s σ H Q h0 I (i σ H Q q)
theorem repl_of : ∀ σ H Q, rE X.K E (dreplC y z fo) σ H Q → CwR.tReplC (rE X.K E fo) y z σ H Q := fun σ H Q ⟨W, ρ, μ, ok, en, p⟩ => by
 refine seq p ok en fun x μ1 W1 v H1 g1 o1 en1 r p1 => ?_
 split at p1
 ·rename_i x0
  split at p1
  ·rename_i hn
   cases r
   exact ⟨_, rfl, Nat.le_trans hn.1 (by decide), post_pure o1 p1 (.str _ (le_line hn.2))⟩
  ·exact p1.elim
 ·exact p1.elim
theorem det_replC (ho : DE X E o fo) (hyz : (y == z) = false := by decide +kernel)
  (hst : starEach [.Constant (.str y) j c0, .Constant (.str z) k c1] X.env = [(false, eval (.Constant (.str y) j c0) X.env), (false, eval (.Constant (.str z) k c1) X.env)] := by rfl)
  (hbase : attributeBase o "replace" X.env (eval o X.env) = eval o X.env := by rfl) (hline : (apos.endLine == pos.line) = true := by rfl) :
  PET X (.Call (.Attribute o "replace" apos) [.Constant (.str y) j c0, .Constant (.str z) k c1] [] pos) (rE X.K E (dreplC y z fo)) := pet_imp (CwR.pet_replC ho hyz hst hbase hline) repl_of
theorem pe_opT {op : Operator} {r : R2} {tb : TE} (ho : OpR X (binaryOp op) r) (hb : PET X b tb) : PE X (.BinOp (.Constant (.str a) c p) op b pos) (fun σ H Q => tb σ H fun y H2 => r (.str a) y H2 Q) := by
 refine ⟨fun pins s σ H Q I h => wpAny_BinOp (Calls.Constant_str ?_)⟩
 exact thn (hb pins _ σ H _ (by show 1 ≤ s.toks + 1; omega) (I.tok _) h) fun u s2 ⟨y, H2, I2, r2, q2⟩ => ho pins s2 σ H2 (.str a) y _ u Q I2 ⟨_, rfl⟩ r2 q2
/-- a written text, then what wants a token -/
theorem de_binT {op : Operator} {g : D → D → Mu → R D} (ho : OpX X E (binaryOp op) g) (hb : PET X b (rE X.K E fb)) (ha : a.length ≤ sizeLine := by decide +kernel) : DE X E (.BinOp (.Constant (.str a) c p) op b pos) (dbin g (dc (.str a)) fb) := by
 refine pe_imp (pe_opT ho hb) fun σ H Q ⟨W, ρ, μ, ok, en, q⟩ => ?_
 have q : postE X.K (WE E σ) W H ((fb ρ μ).bind fun y μ2 => g (.str a) y μ2) Q := q
 exact seq q ok en fun y μ1 W1 v H1 g1 o1 en1 r p1 => ⟨_, W1, μ1, _, y, o1, .str _ ha, r, p1⟩
/-- x.replace(A, B), A and B the module's texts -/
theorem pe_replG {to : TE} {yn zn : Str} {t u : Tok} (ho : PE X o to) (hmy : X.mg yn = some (.str y t)) (hmz : X.mg zn = some (.str z u)) (ht : t ≠ 0) (hu : u ≠ 0) (htu : t ≠ u) (hyz : (y == z) = false) (hgy : Gl X yn := by rfl) (hgz : Gl X zn := by rfl)
  (hdy : (yn == ("__debug__" : Str)) = false := by decide) (hdz : (zn == ("__debug__" : Str)) = false := by decide)
  (hst : starEach [.Name yn p, .Name zn p'] X.env = [(false, eval (.Name yn p) X.env), (false, eval (.Name zn p') X.env)] := by rfl)
  (hbase : attributeBase o "replace" X.env (eval o X.env) = eval o X.env := by rfl) (hline : (apos.endLine == pos.line) = true := by rfl) :
  PE X (.Call (.Attribute o "replace" apos) [.Name yn p, .Name zn p'] [] pos) (CwR.tReplC to y z) := by
 refine ⟨fun pins s σ H Q I h => ?_⟩
 refine PySem.Call_method2 hbase hst hline (thn (ho.run pins s σ H _ I h) fun v s1 ⟨v', H1, I1, r1, x, e1, hb, q⟩ => ?_)
 subst e1
 obtain ⟨tx, e2⟩ := r1
 subst e2
 refine ⟨"str", _, PySem.F.plainAttrs_str, PySem.F.slot_str_replace, PySem.F.type_str_replace, typeIs_str _ _ _, (fun _ e => nomatch e), Calls.callWith_builtin rfl (Calls.evalArgs_plain (Calls.spliced_cons ?_))⟩
 refine ld_glob I1 hgy hmy (Calls.spliced_cons (ld_glob I1 hgz hmz (Calls.spliced_nil ?_) hdz)) hdy
 exact PySem.SC.replace ht hu htu hyz hb fun t' k => ⟨.str (Txt.replace x y z), H1, I1.tok k, ⟨t', rfl⟩, q⟩
theorem de_replG {yn zn : Str} (T : ∃ t u : Tok, X.mg yn = some (.str y t) ∧ X.mg zn = some (.str z u) ∧ t ≠ 0 ∧ u ≠ 0 ∧ t ≠ u) (ho : DE X E o fo) (hyz : (y == z) = false := by decide +kernel) (hgy : Gl X yn := by rfl) (hgz : Gl X zn := by rfl)
  (hdy : (yn == ("__debug__" : Str)) = false := by decide) (hdz : (zn == ("__debug__" : Str)) = false := by decide)
  (hst : starEach [.Name yn p, .Name zn p'] X.env = [(false, eval (.Name yn p) X.env), (false, eval (.Name zn p') X.env)] := by rfl)
  (hbase : attributeBase o "replace" X.env (eval o X.env) = eval o X.env := by rfl) (hline : (apos.endLine == pos.line) = true := by rfl) :
  DE X E (.Call (.Attribute o "replace" apos) [.Name yn p, .Name zn p'] [] pos) (dreplC y z fo) := by
 obtain ⟨t, u, h1, h2, h3, h4, h5⟩ := T
 exact pe_imp (pe_replG ho h1 h2 h3 h4 h5 hyz hgy hgz hdy hdz hst hbase hline) repl_of
end
theorem tok2B_ok {K : PySem.W.Frag} {h : Heap} {mg : Str → Option Value} (X : K.In h) (G : h.Ns mainGlobals mg) {x y a b : Str} (c : tok2B K x y a b = true) : ∃ t u : Tok, mg x = some (.str y t) ∧ mg a = some (.str b u) ∧ t ≠ 0 ∧ u ≠ 0 ∧ t ≠ u := by
 unfold tok2B at c
 split at c
 ·rename_i y' t b' u e1 e2
  rw [Bool.and_eq_true, Bool.and_eq_true, Bool.and_eq_true, Bool.and_eq_true] at c
  obtain ⟨c1, c2, c3, c4, c5⟩ := c
  have h1 := of_decide_eq_true c1
  have h2 := of_decide_eq_true c2
  subst h1 h2
  exact ⟨t, u, PySem.W.mg_of X G e1, PySem.W.mg_of X G e2, of_decide_eq_true c3, of_decide_eq_true c4, of_decide_eq_true c5⟩
 ·cases c
/-! ### d.update(a dict of new keys) -/
theorem valV_new {kvs : List (Key × V)} {k : Key} (h : k ∉ kvs.map (·.1)) : valV kvs k = none := by
 have e := valV_any k kvs
 cases hv : valV kvs k with
 | none => rfl
 | some v =>
  rw [hv] at e
  have e : (kvs.any fun kv => decide (kv.1 = k)) = true := e
  obtain ⟨q, hq, hk⟩ := List.any_eq_true.mp e
  exact absurd (List.mem_map.mpr ⟨q, hq, of_decide_eq_true hk⟩) h
theorem merge_new : ∀ {more kvs : List (Key × V)}, ((kvs ++ more).map (·.1)).Nodup → mergeK kvs more = kvs ++ more
 | [], kvs, _ => by simp [mergeK]
 | q :: more, kvs, h => by
  have h1 : q.1 ∉ kvs.map (·.1) := fun z => by
   rw [List.map_append, List.nodup_append] at h
   exact h.2.2 q.1 z q.1 (by simp) rfl
  show mergeK (putK kvs q.1 q.2) more = _
  rw [putK_new q.2 (valV_new h1), merge_new (more := more) (kvs := kvs ++ [(q.1, q.2)]) (by simpa using h)]
  simp
theorem d_update {X : Cx} {pins : List (Addr × Obj)} {σ : L2.St} {H : Hp} {s : Shared} {a b : Addr} {kvs more : List (Key × V)} {A : Around} {E : Value → Shared → Prop} {Q : Value → Shared → Prop} (I : Inv X pins σ H s) (hab : a ≠ b) (ea : H a = some (.dK kvs)) (eb : H b = some (.dK more)) (hl : kvs.length + more.length ≤ sizeLine)
  (h : ∀ s', Inv X pins σ (upd H a (.dK (mergeK kvs more))) s' → Q .none s') : wpAny (model X.prog X.w) A (call (.builtin "dict.update") [.ref a, .ref b]) Q E s := by
 obtain ⟨z, hd, vs, rel, dd⟩ := dk_of I.hok ea
 obtain ⟨z2, hd2, vs2, rel2, dd2⟩ := dk_of I.hok eb
 refine call_meetsIn PySem.F.slot_dict_update dd.typeIs PySem.F.entry_dict_update (PySem.F.args_dict_update_2 _ _) (meets_dict_update (mixKind X.prog X.w) a b hab hd2) ⟨vs, vs2, dd, dd2, by rw [← rel.length, ← rel2.length]; exact hl, fun h' dd' _ hs => h _ ?_⟩
 have he : ∃ q, h'.get? a = some q := let ⟨q, _, _, hq, _⟩ := dd'; ⟨q, hq⟩
 exact d_write (t' := s.toks) I (by rw [ea]; exact True.intro) hs he (dk_new (Nat.le_trans (length_mergeK more kvs) hl) hd (rel2.merge rel) dd')
def mUpdate : D → List D → Mu → R D := fun x ds μ => match x, ds with
 | .hdl l, [.hdl k] => match μ[l]?, μ[k]? with
  | some (.dct ks xs), some (.dct js ys) => if l ≠ k ∧ (ks ++ js).Nodup ∧ ks.length = xs.length ∧ js.length = ys.length ∧ ks.length + js.length ≤ 1000000 then .ok .non (μ.set l (.dct (ks ++ js) (xs ++ ys))) else .bad
  | _, _ => .bad
 | _, _ => .bad
theorem mx_update {X : Cx} {E : WX} : MtX X E "dict.update" mUpdate := by
 intro pins s σ H x xs v us Q I rx rs q
 obtain ⟨E', W, μ, d, ds, ok, r1, r2, p⟩ := q
 unfold mUpdate at p
 split at p
 ·rename_i l k
  split at p
  ·rename_i ks xs0 js ys hm hk
   split at p
   ·rename_i hn
    obtain ⟨n1, n2, n3, n4, n5⟩ := hn
    cases r1 with
    | @hdl a _ ha =>
     cases rx
     cases r2 with
     | cons rb rr =>
      cases rr
      cases rb with
      | @hdl b _ hb =>
       obtain ⟨u, rfl, ru⟩ := rs.one
       cases ru
       obtain ⟨o1, ho1, vs, rfl, hv, q1⟩ := ok.cell l a _ ha hm
       obtain ⟨o2, ho2, ws, rfl, hw, q2⟩ := ok.cell k b _ hb hk
       have hab : a ≠ b := fun z => by
        subst z
        have l1 := (List.getElem?_eq_some_iff.mp ha)
        have l2 := (List.getElem?_eq_some_iff.mp hb)
        obtain ⟨h1, e1⟩ := l1
        obtain ⟨h2, e2⟩ := l2
        exact n1 ((List.getElem_inj ok.nd).mp (e1.trans e2.symm))
       have em : mergeK (ks.zip vs) (js.zip ws) = (ks ++ js).zip (vs ++ ws) := by
        rw [List.zip_append hv]
        refine merge_new ?_
        rw [← List.zip_append hv, List.map_fst_zip (by simp [hv, hw])]
        exact n2
       obtain ⟨ok4, g4⟩ := ok.setcell (m' := .dct (ks ++ js) (xs0 ++ ys)) (o' := .dK ((ks ++ js).zip (vs ++ ws))) ha hm (fun z => nomatch z) ⟨vs ++ ws, rfl, by simp [hv, hw], q1.app q2⟩
       refine d_update I hab ho1 ho2 ?_ fun s' I' => ⟨.non, _, I', rfl, ?_⟩
       ·rw [List.length_zip, List.length_zip, ← hv, ← hw, Nat.min_self, Nat.min_self]
        exact Nat.le_trans n5 (by decide)
       ·rw [em]
        exact p _ _ _ g4 ok4 .non
   ·exact p.elim
  ·exact p.elim
 ·exact p.elim
end DL
/-! DL136: zip of a text and a list. -/
namespace DL
open PySem L2 PySem.Spec PyProof.Rows
/-- the text's signs and the list at b, the items in new pairs -/
def ItzTx (K : PySem.W.Frag) (x : Str) (b : Addr) (m : Nat) : It :=
 ⟨fun i H => i < x.cps.size ∧ ∃ (ys : List V) (y : V), SqL K H b ys ∧ ys.length = m ∧ ys[i]? = some y,
  fun i H v H' => ∃ T c y, v = .ref T ∧ H T = none ∧ H' = upd H T (.tup [.str ⟨#[c]⟩, y]) ∧ x.cps[i]? = some c ∧ ∀ ys, SqL K H b ys → ys[i]? = some y,
  fun i H => ∃ ys : List V, SqL K H b ys ∧ ys.length = m ∧ (x.cps.size ≤ i ∨ m ≤ i)⟩
theorem turn_zipT {P : Program} {w : World} {K : PySem.W.Frag} {elts : List Expr} {kk : Nat} {tpos : Pos} {b z TI TO i1 i2 : Addr} (x : Str) (t : Tok) (m : Nat) (D : ZipSep2 z TI TO i1 i2 [i1] [i2, b]) (nb : b ≠ i2) :
  Turn P w K (.Tuple elts kk tpos) (ItzTx K x b m) [z, TI, TO, i1, i2] z (fun i h => i ≤ x.cps.size ∧ i ≤ m ∧ IsZip h z TI TO .none ∧ IsTupOf2 h TI (.ref i1) (.ref i2) ∧ (∃ x y, IsTupOf2 h TO x y) ∧ h.IsStrIter i1 (strIterType x) x t i ∧ h.IsListIter i2 b i) where
 mem := by simp
 obj := fun i h st c hc => by
  obtain ⟨_, _, hz, hTI, ⟨x, y, hTO⟩, ⟨o1, e1, _, d1⟩, ⟨o2, e2, _, d2⟩⟩ := st
  rcases five_of hc with q | q | q | q | q
  ·rw [q]; exact ⟨_, hz, fun v q => nomatch q⟩
  ·rw [q]; exact ⟨_, hTI, fun v q => nomatch q⟩
  ·rw [q]; exact ⟨_, hTO, fun v q => nomatch q⟩
  ·rw [q]; exact ⟨o1, e1, fun v q => by rw [d1] at q; cases q⟩
  ·rw [q]; exact ⟨o2, e2, fun v q => by rw [d2] at q; cases q⟩
 keep := fun i h h' st k => by
  obtain ⟨l1, l2, hz, hTI, ⟨x, y, hTO⟩, ⟨o, ho, r⟩, h2⟩ := st
  exact ⟨l1, l2, k z (by simp) _ hz, k TI (by simp) _ hTI, ⟨x, y, k TO (by simp) _ hTO⟩, ⟨o, k i1 (by simp) o ho, r⟩, h2.at fun o q => k i2 (by simp) o q⟩
 item := by
  intro X hP hw hK hc i pins s σ H E I hf st hg
  subst hP hw hK
  obtain ⟨l1, l2, hz, hTI, ⟨x0, y0, hTO⟩, h1, h2⟩ := st
  obtain ⟨t1, ys, y, hqy, hyl, hy⟩ := hg
  obtain ⟨its2, rv2, p2', _⟩ := I.list hqy
  have p2 : s.heap.IsList b its2.toArray := p2'.isList
  obtain ⟨u2, hu2, ru2⟩ := rv2.get hy
  have sz2 : its2.toArray.size = m := by rw [List.size_toArray, ← rv2.length, hyl]
  have t2 : i < its2.toArray.size := by rw [sz2, ← hyl]; exact (List.getElem?_eq_some_iff.mp hy).1
  have hzl : z < s.heap.objs.size := Heap.lt_size hz
  refine wpAny_pyNext_zipD2_item D (Draws.text (A := X.A.in1) (I.ok.hd hc) i1 x t) (Draws.list (A := X.A.in1) (I.ok.hd hc) i2 b nb its2.toArray) hz hTI hTO h1 ⟨h2, p2⟩ t1 t2 fun v1 v2 h' tk e1 e2 z' TO' h1' h2' hT hsz hk => ?_
  obtain ⟨c, tu, hcx, rfl⟩ := e1
  have q2 : v2 = u2 := by
   have q : its2[i]? = some v2 := by simpa using e2
   rw [hu2] at q
   exact (Option.some.inj q).symm
  subst q2
  refine ⟨_, rfl, wpAny_letOwnedTupleGo_zip (s := { s with heap := h', toks := tk }) z' fun h'' z'' sb => ?_⟩
  have hT2 : h''.get? s.heap.objs.size = some { cls := .type "tuple", data := .seq #[.str ⟨#[c]⟩ tu, v2] } := (sb.2 _ (Nat.ne_of_gt hzl)).trans hT
  have new : ObjOk X.prog X.w (upd H s.heap.objs.size (.tup [.str ⟨#[c]⟩, y])) h'' s.heap.objs.size (.tup [.str ⟨#[c]⟩, y]) :=
   ⟨by show 2 ≤ sizeLine; decide, [.str ⟨#[c]⟩ tu, v2], .cons ⟨_, rfl⟩ (.cons ru2 .nil), ⟨_, hT2, rfl, _, rfl⟩⟩
  have I1 : Inv X pins σ (upd H s.heap.objs.size (.tup [.str ⟨#[c]⟩, y])) { s with heap := h'', toks := tk } :=
   I.turnedNew (ch := [z, TI, TO, i1, i2]) (fun c o hb q => (sb.2 c (fun q' => hb (by simp [q']))).trans (hk c o (fun q' => hb (by simp [q'])) (fun q' => hb (by simp [q'])) (fun q' => hb (by simp [q'])) (fun q' => hb (by simp [q'])) q)) hf (Nat.le_refl _) new
  refine ⟨.ref s.heap.objs.size, _, I1, rfl, ⟨_, c, y, rfl, I.hok.fresh (Nat.le_refl _), rfl, hcx, fun l hl => by rw [I.list_inj hl hqy]; exact hy⟩, ⟨t1, by omega, z'', ?_, ⟨.str ⟨#[c]⟩ tu, v2, ?_⟩, ?_, ?_⟩, fun c hcm => ?_⟩
  ·exact (sb.2 _ D.TIz).trans (hk _ _ D.TIz D.TITO D.TIi1 D.TIi2 hTI)
  ·exact (sb.2 _ D.TOz).trans TO'
  ·obtain ⟨o, ho2, r⟩ := h1'
   exact ⟨o, (sb.2 _ (Ne.symm D.zi1)).trans ho2, r⟩
  ·exact h2'.1.at fun o q => (sb.2 _ (Ne.symm D.zi2)).trans q
  ·have hlt : c < s.heap.objs.size := by
    rcases five_of hcm with q | q | q | q | q
    ·rw [q]; exact hzl
    ·rw [q]; exact Heap.lt_size hTI
    ·rw [q]; exact Heap.lt_size hTO
    ·rw [q]; obtain ⟨_, e1, _⟩ := h1; exact Heap.lt_size e1
    ·rw [q]; obtain ⟨_, e2, _⟩ := h2; exact Heap.lt_size e2
   rw [upd_ne (Nat.ne_of_lt hlt)]
   exact (hf c hcm).1
 done := by
  intro X hP hw hK hc i pins s σ H E I hf st hg
  subst hP hw hK
  obtain ⟨l1, l2, hz, hTI, ⟨x0, y0, hTO⟩, h1, h2⟩ := st
  obtain ⟨ys, hqy, hyl, hend⟩ := hg
  obtain ⟨its2, rv2, p2', _⟩ := I.list hqy
  have p2 : s.heap.IsList b its2.toArray := p2'.isList
  have sz2 : its2.toArray.size = m := by rw [List.size_toArray, ← rv2.length, hyl]
  exact wpAny_pyNext_zipD2_end D (Draws.text (A := X.A.in1) (I.ok.hd hc) i1 x t) (Draws.list (A := X.A.in1) (I.ok.hd hc) i2 b nb its2.toArray) hz hTI hTO h1 ⟨h2, p2⟩ l1 (by omega) (by omega) fun h' tk hk => ⟨rfl, I.turnedL (t' := tk) (ch := [z, TI, TO, i1, i2]) (fun c o hb q =>
   hk c o (fun q' => hb (by simp [q'])) (fun q' => hb (by simp [q'])) (fun q' => hb (by simp [q'])) (fun q' => hb (by simp [q'])) q) hf⟩
 self := fun A i s Q E st h => wpAny_pyIter_zip st.2.2.1 h
def iZipT (K : PySem.W.Frag) (ta : TA) : TI := fun σ H R => ta σ H fun vs H1 => ∃ x b ys, vs = [.str x, .ref b] ∧ SqL K H1 b ys ∧ R (ItzTx K x b ys.length) H1
theorem pi_zipT {X : Cx} {e e2 : Expr} {ta : TA} {p pos tpos : Pos} {elts : List Expr} {kk : Nat} (hg : Gl X "zip") (hm : X.mg "zip" = none) (ha : PA X [e, e2] ta)
  (hs : starEach [e, e2] X.env = (false, eval e X.env) :: starEach [e2] X.env := by rfl) (hpl : (backTo pos (starEach [e2] X.env)).any (·.1) = false := by rfl) :
  PI X (.Tuple elts kk tpos) (.Call (.Name "zip" p) [e, e2] [] pos) (iZipT X.K ta) := by
 refine ⟨fun pins s σ H R I h => ?_⟩
 refine Call_ (ld_blt I hg hm PyProof.Rows.boot_zip (PyProof.Rows.callWith_type1 (thn (ha.run pos pins s σ H _ I h) fun us s1 ⟨vs, H1, I1, r1, q1⟩ => ?_) hs hpl))
 obtain ⟨x, b, ys, ex, hqy, q⟩ := q1
 subst ex
 cases r1 with
 | cons r rr =>
  cases rr with
  | cons r' rr =>
   cases rr
   obtain ⟨t, rfl⟩ := r
   cases r'
   obtain ⟨its2, rv2, p2', _⟩ := I1.list hqy
   have p2 : s1.heap.IsList b its2.toArray := p2'.isList
   have bl : b < s1.heap.objs.size := p2'.lt
   refine zip_begins2 (begins_text x t) (begins_list b its2.toArray) True.intro p2 fun h' hz hTI hTO h1 h2 hsz hk => wpAny_pyIter_zip hz ?_
   have I2 : Inv X pins σ H1 { s1 with heap := h' } := I1.kept (t' := s1.toks) hk
   refine ⟨s1.heap.objs.size + 4, [s1.heap.objs.size + 4, s1.heap.objs.size + 2, s1.heap.objs.size + 3, s1.heap.objs.size, s1.heap.objs.size + 1], _, _, H1, rfl, I2, turn_zipT x t ys.length (zip_sep2 (N := s1.heap.objs.size) (fp1 := []) (fp2 := [b]) (by simp) (by simpa using bl)) (Nat.ne_of_lt (Nat.lt_succ_of_lt bl)), ⟨Nat.zero_le _, Nat.zero_le _, hz, hTI, ⟨_, _, hTO⟩, ⟨_, h1, rfl, rfl⟩, ⟨_, h2, rfl, rfl⟩⟩, fun c hcm => ?_, q⟩
   have hle : s1.heap.objs.size ≤ c := by
    rcases five_of hcm with z | z | z | z | z
    ·rw [z]; exact Nat.le_add_right _ _
    ·rw [z]; exact Nat.le_add_right _ _
    ·rw [z]; exact Nat.le_add_right _ _
    ·rw [z]; exact Nat.le_refl _
    ·rw [z]; exact Nat.le_add_right _ _
   exact I1.fpOk hle (I1.hok.fresh hle)
theorem walk_zipS2 {K : PySem.W.Frag} {W : Wd} {x : Str} {b : Addr} {ws : List V} {ys : List D} (z : x.length ≤ sizeLine) (h2 : SqL K W.S b ws) (r2 : Reps K W ws ys) : Walk K W (ItzTx K x b ws.length) (zipD (signs x) ys) := by
 have l1 : (signs x).length = x.cps.size := by simp [signs]
 have l2 := r2.length
 have z' : x.cps.size ≤ sizeLine := z
 refine ⟨by rw [zipD_len]; omega, fun H i s hi => ?_, fun H i s hi => ⟨ws, same_l s h2, rfl, by rw [zipD_len] at hi; omega⟩, fun H i v H' s y d e W1 μ le ok => ?_⟩
 ·rw [zipD_len] at hi
  obtain ⟨w, e2, _⟩ := r2.get (List.getElem?_eq_getElem (show i < ys.length by omega))
  exact ⟨by omega, ws, w, same_l s h2, rfl, e2⟩
 ·obtain ⟨T, c, yv, rfl, hT, rfl, q1, q2⟩ := y
  have e3 : (signs x)[i]? = some (.str ⟨#[c]⟩) := by
   unfold signs
   rw [List.getElem?_map, Array.getElem?_toList, q1]
   rfl
  obtain ⟨yd, e4, r4⟩ := r2.getV (q2 ws (same_l s h2))
  rw [zipD_get e3 e4] at e
  cases e
  exact ⟨W1.new T (.tup [.str ⟨#[c]⟩, yv]), Go.new ok hT, ok.new hT, rep_tup ok hT (by show 2 ≤ sizeLine; decide) (.cons (.str _ (by show 1 ≤ sizeLine; decide)) (.cons (r4.mono le) .nil))⟩
def itZT (f : FA) : FA := fun ρ μ => (f ρ μ).bind fun ds μ1 => match ds with
 | [.str x, .lst ys] => .ok (zipD (signs x) ys) μ1
 | _ => .bad
theorem di_zipT {X : Cx} {E : WX} {e e2 : Expr} {fa : FA} {p pos tpos : Pos} {elts : List Expr} {kk : Nat} (hm : X.mg "zip" = none) (ha : DA X E [e, e2] fa) (hg : Gl X "zip" := by rfl) (hs : starEach [e, e2] X.env = (false, eval e X.env) :: starEach [e2] X.env := by rfl) (hpl : (backTo pos (starEach [e2] X.env)).any (·.1) = false := by rfl) :
  DI X E (.Tuple elts kk tpos) (.Call (.Name "zip" p) [e, e2] [] pos) (itZT fa) := by
 refine pi_imp (pi_zipT hg hm ha hs hpl) fun σ H Q ⟨W, ρ, μ, ok, en, p⟩ => ⟨W, ρ, μ, ok, en, ?_⟩
 unfold itZT at p
 revert p
 cases fa ρ μ with
 | bad => exact fun p => p
 | ex c fs μ1 => exact fun p => p
 | ok ds μ1 =>
  intro p W1 vs H1 g o r
  rw [R.bind_ok] at p
  split at p
  ·cases r with
   | cons ra rr =>
    cases rr with
    | cons rb rr =>
     cases rr
     cases ra with
     | str x z =>
      cases rb with
      | lst z2 h2 r2 => exact ⟨_, _, _, rfl, (same_lq o.sub h2).sq, p W1 _ H1 g o (walk_zipS2 z h2.sq r2)⟩
  ·exact p.elim
end DL
/-! DL137: a, b, .. = a list; a clause that is never come to. -/
namespace DL
open PySem L2 PySem.Spec PyProof.Rows
def gasgL (ts : List Tg) (f : FE) : FS := fun ρ μ => (f ρ μ).to ρ fun d μ1 => match d with
 | .lst ds => match asgL ts ds ρ with
  | some ρ' => .nx ρ' μ1
  | none => .bad
 | _ => .bad
theorem ds_asgL {X : Cx} {E : WX} {es : List Expr} {ts : List Tg} {e : Expr} {f : FE} {k : Nat} {pos pos' : Pos} (hc : X.calm = true) (he : DE X E e f) (h : DGs X es ts) (hn : (assignEach es X.env).length = ts.length := by rfl) (hst : (assignEach es X.env).findIdx? (·.1) = none := by rfl)
  (hs : swapsWithSole [.Tuple es k pos'] e pos.line X.env = pure false := by rfl) (hw : swappedStores [.Tuple es k pos'] e X.env = pure none := by rfl)
  (h1 : (assignEach [.Tuple es k pos'] X.env).map (·.2) = [assign (.Tuple es k pos') X.env] := by rfl) : DS X E (.Assign [.Tuple es k pos'] e pos) (gasgL ts f) := by
 refine ps_imp (ps_asg he (pg_lst hc h hn hst) hs hw h1) fun Z σ H ⟨W, ρ, μ, ok, en, p⟩ => ?_
 refine seqS p ok en fun d μ1 W1 v H1 g1 o1 en1 r p1 => ?_
 split at p1
 ·rename_i ds
  split at p1
  ·rename_i ρ' ha
   cases r with
   | lst z hl rs => exact ⟨_, _, rfl, (same_lq o1.sub hl).sq, by rw [rs.length, ← asgL_len ha], W1, ρ, ρ', ds, μ1, o1, en1, rs, ha, fun σ' en' _ => p1 W1 σ' H1 (Go.refl _ _) o1 en'⟩
  ·exact p1.elim
 ·exact p1.elim
end DL
/-! DL138: ORDER.index(e), ORDER the module's tuple of texts; join of a changed list. -/
namespace DL
open PySem L2 PySem.Spec PyProof.Rows
def dtix (ys : List Str) (fe : FE) : FE := fun ρ μ => (fe ρ μ).bind fun y μ1 => match y with
 | .str z => match ys.findIdx? (fun x => decide (x = z)) with
  | some j => .ok (.int j) μ1
  | none => .bad
 | _ => .bad
abbrev TupK (K : PySem.W.Frag) (mg : Str → Option Value) (n : Str) (ys : List Str) : Prop := ∃ a o, mg n = some (.ref a) ∧ K.lookup a = some o ∧ o.cls = .type "tuple" ∧ o.dict = none ∧ ∀ W, Rep K W (.ref a) (.tup (ys.map .str))
theorem findIdx_at {ys : List Str} {z : Str} {j : Nat} (h : ys.findIdx? (fun x => decide (x = z)) = some j) : ys[j]? = some z ∧ ∀ m, m < j → ys[m]? ≠ some z := by
 obtain ⟨hj, h1, h2⟩ := List.findIdx?_eq_some_iff_getElem.mp h
 refine ⟨?_, fun m hm e => ?_⟩
 ·rw [List.getElem?_eq_getElem hj, of_decide_eq_true h1]
 ·have hl : m < ys.length := by omega
  rw [List.getElem?_eq_getElem hl] at e
  have q := h2 m hm
  rw [Option.some.inj e] at q
  exact q (decide_eq_true rfl)
theorem de_tupIdx {X : Cx} {E : WX} {n : Str} {ys : List Str} {e : Expr} {fe : FE} {p apos pos : Pos} (T : TupK X.K X.mg n ys) (he : DE X E e fe) (hg : Gl X n := by rfl) (hd : (n == ("__debug__" : Str)) = false := by decide)
  (hs : starEach [e] X.env = [(false, eval e X.env)] := by rfl) (hbase : attributeBase (.Name n p) "index" X.env (eval (.Name n p) X.env) = eval (.Name n p) X.env := by rfl) (hline : (apos.endLine == pos.line) = true := by rfl) :
  DE X E (.Call (.Attribute (.Name n p) "index" apos) [e] [] pos) (dtix ys fe) := by
 obtain ⟨a, o, hm, hl, hc, hdi, hr⟩ := T
 refine ⟨fun pins s σ H Q I q => ?_⟩
 obtain ⟨W, ρ, μ, ok, en, pq⟩ := q
 refine PySem.Call_method1 hbase hs hline (ld_glob I hg hm ?_ hd)
 refine ⟨"tuple", _, PySem.F.plainAttrs_tuple, PySem.F.slot_tuple_index, PySem.F.type_tuple_index, ⟨o, I.kIn _ _ hl, hc⟩, (fun b e => by cases e; exact ⟨o, I.kIn _ _ hl, hdi⟩), Calls.callWith_builtin rfl (Calls.evalArgs_plain (Calls.spliced_cons ?_))⟩
 have rd : rE X.K E fe σ H (fun y H2 => ∃ z j, y = .str z ∧ ys[j]? = some z ∧ (∀ m, m < j → ys[m]? ≠ some z) ∧ SqT X.K H2 a (ys.map V.str) ∧ Q (.int (j : Nat)) H2) := by
  refine seq pq ok en fun y μ1 W1 v H1 g1 o1 en1 r p1 => ?_
  split at p1
  ·rename_i z
   split at p1
   ·rename_i j hj
    cases r
    obtain ⟨h1, h2⟩ := findIdx_at hj
    refine ⟨z, j, rfl, h1, h2, ?_, post_pure o1 p1 (.int _)⟩
    cases hr W1 with
    | tup z' sq rs =>
     have ev := strsD_rep rs (strsD_map ys)
     subst ev
     exact same_t o1.sub sq
   ·exact p1.elim
  ·exact p1.elim
 exact thn (he.run pins s σ H _ I rd) fun u s2 ⟨y, H2, I2, r2, z, j, ey, h1, h2, sq, q2⟩ => by
  subst ey
  exact Calls.spliced_nil (mt_tup_index pins s2 σ H2 (.ref a) [.str z] _ [u] Q I2 rfl (.cons r2 .nil) ⟨a, ys, z, j, rfl, rfl, sq, h1, h2, q2⟩)
theorem tupKB_ok {K : PySem.W.Frag} {h : Heap} {mg : Str → Option Value} (X : K.In h) (G : h.Ns mainGlobals mg) {n : Str} {ys : List Str} (c : tupKB K n ys = true) : TupK K mg n ys := by
 unfold tupKB at c
 split at c
 ·rename_i a e
  split at c
  ·rename_i o hl
   rw [Bool.and_eq_true, Bool.and_eq_true] at c
   obtain ⟨c1, c2, c3⟩ := c
   obtain ⟨v, rv, rp⟩ := holdV_rep 8 _ _ c3
   have ev : v = .ref a := by
    cases v with
    | ref b => cases rv; rfl
    | str x => obtain ⟨t, e⟩ := rv; cases e
    | int x => obtain ⟨t, e⟩ := rv; cases e
    | byt x => obtain ⟨t, e⟩ := rv; cases e
    | flt x => obtain ⟨t, e⟩ := rv; cases e
    | _ => cases rv
   subst ev
   exact ⟨a, o, PySem.W.mg_of X G e, hl, eq_of_beq c1, Option.isNone_iff_eq_none.mp c2, rp⟩
  ·cases c
 ·cases c
def mJoinX : D → List D → Mu → R D := fun x ds μ => match ds with
 | [.hdl l] => match μ[l]? with
  | some (.lst xs) => mJoin x [.lst xs] μ
  | _ => .bad
 | _ => mJoin x ds μ
theorem mx_joinX {X : Cx} {E : WX} : MtX X E "str.join" mJoinX := by
 intro pins s σ H x xs v us Q I rx rs q
 obtain ⟨E', W, μ, d, ds, ok, r1, r2, p⟩ := q
 unfold mJoinX at p
 split at p
 ·rename_i l
  split at p
  ·rename_i ys hm
   unfold mJoin at p
   split at p
   ·rename_i hds
    cases hds
    split at p
    ·rename_i zs hz
     split at p
     ·rename_i hn
      cases r1
      cases r2 with
      | cons ra rr =>
       cases rr
       cases ra with
       | @hdl a _ ha =>
        obtain ⟨o, ho, vs, rfl, q⟩ := ok.cell l a _ ha hm
        have e := strsD_rep q hz
        subst e
        exact mt_join pins s σ H _ _ _ _ Q I rx rs ⟨_, _, zs, rfl, rfl, .inl (.inl (.inl ho)), Nat.le_trans hn.1 (by decide), post_pure ok p (.str _ (le_line hn.2))⟩
     ·exact p.elim
    ·exact p.elim
   ·exact p.elim
  ·exact p.elim
 ·exact mx_join (E := E) pins s σ H x xs v us Q I rx rs ⟨E', W, μ, d, ds, ok, r1, r2, p⟩
end DL
/-! DL139: int of a text. -/
namespace DL
open PySem L2 PySem.Spec PyProof.Rows
def bIntX : List D → Mu → R D := fun ds μ => match ds with
 | [.str a] => match PySem.intText? a with
  | some n => if a.length ≤ 640 then .ok (.int n) μ else .bad
  | none => .bad
 | ds => bInt ds μ
theorem cx_intX {X : Cx} {E : WX} : CallX X E (.type "int") bIntX := by
 intro pins s σ H xs us Q I rs q
 obtain ⟨E', W, μ, ds, ok, r, p⟩ := q
 unfold bIntX at p
 split at p
 ·rename_i a
  split at p
  ·rename_i n hn
   split at p
   ·rename_i hl
    cases r with
    | cons r1 r2 =>
     cases r2
     cases r1
     exact call_int_str pins s σ H _ us Q I rs ⟨a, n, rfl, hn, hl, post_pure ok p (.int n)⟩
   ·exact p.elim
  ·exact p.elim
 ·exact cx_int (E := E) pins s σ H xs us Q I rs ⟨E', W, μ, ds, ok, r, p⟩
end DL
/-! DL140: a text times a number. -/
namespace DL
open PySem L2 PySem.Spec PyProof.Rows
theorem mulOk_small {a : Str} {k : Int} (h0 : 0 ≤ k) (h1 : k ≤ 100) (h2 : a.length ≤ 100) : MulOk a k := by
 have m1 : (a.length : Int) * k ≤ 100 * 100 := Int.mul_le_mul (by omega) h1 h0 (by omega)
 have m2 : a.length * k.toNat ≤ 100 * 100 := Nat.mul_le_mul h2 (by omega)
 refine ⟨?_, fun h _ => ?_, fun _ _ => ?_⟩
 ·rw [Bool.or_eq_false_iff]
  exact ⟨decide_eq_false (by omega), decide_eq_false (by omega)⟩
 ·have q : (a.length : Int) ≤ (2 ^ 63 - 1) / k := (Int.le_ediv_iff_mul_le (by omega)).mpr (by omega)
  omega
 ·unfold PySem.Builtin.Str.tooLong
  exact decide_eq_false (by rw [sizeLine_eq]; omega)
def mulS : D → D → Mu → R D := fun x y μ => match x, y with
 | .str a, .int k => if decide (0 ≤ k ∧ k ≤ 100 ∧ a.length ≤ 100) = true ∧ (Txt.mul a k).length ≤ 1000000 then .ok (.str (Txt.mul a k)) μ else .bad
 | x, y => mulX x y μ
theorem opx_mulS {X : Cx} {E : WX} : OpX X E (binaryOp .Mult) mulS := by
 intro pins s σ H x y v u Q I rx ry q
 obtain ⟨E', W, μ, dx, dy, ok, r1, r2, p⟩ := q
 unfold mulS at p
 split at p
 ·rename_i a k
  split at p
  ·rename_i hn
   obtain ⟨hd, hl⟩ := hn
   obtain ⟨h0, h1, h2⟩ := of_decide_eq_true hd
   cases r1
   cases r2
   obtain ⟨t, rfl⟩ := rx
   obtain ⟨t2, rfl⟩ := ry
   refine PySem.SB.mul (mulOk_small h0 h1 h2) fun t' k' => ⟨.str _, H, I.tok k', ⟨t', rfl⟩, post_pure ok p (.str _ (le_line hl))⟩
  ·exact p.elim
 ·exact opx_mulX (E := E) pins s σ H x y v u Q I rx ry ⟨E', W, μ, dx, dy, ok, r1, r2, p⟩
end DL
namespace DL78
open PySem PySem.Spec PyProof.Rows L2 DL
theorem sc_Parcel_eq : FnScope ["self", "other"] ["self", "other"] (defScope s_Parcel_eq) := ⟨rfl, rfl, rfl, by decide +kernel, rfl, by decide +kernel, by decide +kernel⟩
theorem sc_law_digits : FnScope ["_law_cell", "_law_turn", "_law_sizes", "_law_number", "_law_wide", "_law_seed", "_law_found", "_law_k", "_law_size"] ["_law_cell", "_law_turn", "_law_sizes"] (defScope s_law_digits) := ⟨rfl, rfl, rfl, by decide +kernel, rfl, by decide +kernel, by decide +kernel⟩
theorem sc_is_name : FnScope ["thing", "sign"] ["thing"] (defScope s_is_name) := ⟨rfl, rfl, rfl, by decide +kernel, rfl, by decide +kernel, by decide +kernel⟩
theorem sc_is_path : FnScope ["thing", "names", "one"] ["thing"] (defScope s_is_path) := ⟨rfl, rfl, rfl, by decide +kernel, rfl, by decide +kernel, by decide +kernel⟩
theorem sc_is_tuple : FnScope ["thing", "many"] ["thing", "many"] (defScope s_is_tuple) := ⟨rfl, rfl, rfl, by decide +kernel, rfl, by decide +kernel, by decide +kernel⟩
theorem sc_is_aside : FnScope ["thing"] ["thing"] (defScope s_is_aside) := ⟨rfl, rfl, rfl, by decide +kernel, rfl, by decide +kernel, by decide +kernel⟩
theorem sc_is_whole : FnScope ["thing"] ["thing"] (defScope s_is_whole) := ⟨rfl, rfl, rfl, by decide +kernel, rfl, by decide +kernel, by decide +kernel⟩
theorem sc_is_from : FnScope ["thing", "least", "most"] ["thing", "least", "most"] (defScope s_is_from) := ⟨rfl, rfl, rfl, by decide +kernel, rfl, by decide +kernel, by decide +kernel⟩
theorem sc_is_choice : FnScope ["thing"] ["thing"] (defScope s_is_choice) := ⟨rfl, rfl, rfl, by decide +kernel, rfl, by decide +kernel, by decide +kernel⟩
theorem sc_is_edition : FnScope ["thing"] ["thing"] (defScope s_is_edition) := ⟨rfl, rfl, rfl, by decide +kernel, rfl, by decide +kernel, by decide +kernel⟩
theorem sc_is_clash : FnScope ["thing"] ["thing"] (defScope s_is_clash) := ⟨rfl, rfl, rfl, by decide +kernel, rfl, by decide +kernel, by decide +kernel⟩
theorem sc_is_deed : FnScope ["thing"] ["thing"] (defScope s_is_deed) := ⟨rfl, rfl, rfl, by decide +kernel, rfl, by decide +kernel, by decide +kernel⟩
theorem sc_is_worth : FnScope ["thing"] ["thing"] (defScope s_is_worth) := ⟨rfl, rfl, rfl, by decide +kernel, rfl, by decide +kernel, by decide +kernel⟩
theorem sc_is_file : FnScope ["thing"] ["thing"] (defScope s_is_file) := ⟨rfl, rfl, rfl, by decide +kernel, rfl, by decide +kernel, by decide +kernel⟩
theorem sc_is_option : FnScope ["thing"] ["thing"] (defScope s_is_option) := ⟨rfl, rfl, rfl, by decide +kernel, rfl, by decide +kernel, by decide +kernel⟩
theorem sc_are_all : FnScope ["thing", "most", "fits", "one"] ["thing", "most", "fits"] (defScope s_are_all) := ⟨rfl, rfl, rfl, by decide +kernel, rfl, by decide +kernel, by decide +kernel⟩
theorem sc_heads_of : FnScope ["some", "one"] ["some"] (defScope s_heads_of) := ⟨rfl, rfl, rfl, by decide +kernel, rfl, by decide +kernel, by decide +kernel⟩
theorem sc_is_need : FnScope ["thing"] ["thing"] (defScope s_is_need) := ⟨rfl, rfl, rfl, by decide +kernel, rfl, by decide +kernel, by decide +kernel⟩
theorem sc_rise : FnScope ["some", "one", "other"] ["some"] (defScope s_rise) := ⟨rfl, rfl, rfl, by decide +kernel, rfl, by decide +kernel, by decide +kernel⟩
theorem sc_are_rising : FnScope ["thing", "most", "fits"] ["thing", "most", "fits"] (defScope s_are_rising) := ⟨rfl, rfl, rfl, by decide +kernel, rfl, by decide +kernel, by decide +kernel⟩
theorem sc_are_asides : FnScope ["thing", "files", "settings", "paths", "others", "path", "other"] ["thing", "files", "settings"] (defScope s_are_asides) := ⟨rfl, rfl, rfl, by decide +kernel, rfl, by decide +kernel, by decide +kernel⟩
theorem sc_are_calls : FnScope ["thing"] ["thing"] (defScope s_are_calls) := ⟨rfl, rfl, rfl, by decide +kernel, rfl, by decide +kernel, by decide +kernel⟩
theorem sc_are_choices : FnScope ["thing", "files", "settings", "path", "target", "rank"] ["thing", "files", "settings"] (defScope s_are_choices) := ⟨rfl, rfl, rfl, by decide +kernel, rfl, by decide +kernel, by decide +kernel⟩
theorem sc_are_needs : FnScope ["name", "thing", "need"] ["name", "thing"] (defScope s_are_needs) := ⟨rfl, rfl, rfl, by decide +kernel, rfl, by decide +kernel, by decide +kernel⟩
theorem sc_Parcel_init : FnScope ["self", "name", "edition", "needs", "ahead", "clashes", "files", "settings", "asides", "choices", "calls", "deeds", "path"] ["self", "name", "edition", "needs", "ahead", "clashes", "files", "settings", "asides", "choices", "calls", "deeds"] (defScope s_Parcel_init) := ⟨rfl, rfl, rfl, by decide +kernel, rfl, by decide +kernel, by decide +kernel⟩
theorem sc_law_parcel : FnScope ["_law_name", "_law_year", "_law_own"] ["_law_name", "_law_year", "_law_own"] (defScope s_law_parcel) := ⟨rfl, rfl, rfl, by decide +kernel, rfl, by decide +kernel, by decide +kernel⟩
theorem sc_law_needs : FnScope ["_law_d", "_law_k", "_law_found", "_law_turn", "_law_some", "_law_one"] ["_law_d", "_law_k"] (defScope s_law_needs) := ⟨rfl, rfl, rfl, by decide +kernel, rfl, by decide +kernel, by decide +kernel⟩
theorem sc_law_paths : FnScope ["_law_some", "_law_many"] ["_law_some", "_law_many"] (defScope s_law_paths) := ⟨rfl, rfl, rfl, by decide +kernel, rfl, by decide +kernel, by decide +kernel⟩
theorem sc_law_parts : FnScope ["_law_d", "_law_brought", "_law_tuned", "_law_led", "_law_picks", "_law_found", "_law_acts", "_law_k", "_law_path"] ["_law_d"] (defScope s_law_parts) := ⟨rfl, rfl, rfl, by decide +kernel, rfl, by decide +kernel, by decide +kernel⟩
theorem sc_Parcel_ahead : FnScope ["self"] ["self"] (defScope s_Parcel_ahead) := ⟨rfl, rfl, rfl, by decide +kernel, rfl, by decide +kernel, by decide +kernel⟩
theorem sc_Parcel_asides : FnScope ["self"] ["self"] (defScope s_Parcel_asides) := ⟨rfl, rfl, rfl, by decide +kernel, rfl, by decide +kernel, by decide +kernel⟩
theorem sc_Parcel_called : FnScope ["self"] ["self"] (defScope s_Parcel_called) := ⟨rfl, rfl, rfl, by decide +kernel, rfl, by decide +kernel, by decide +kernel⟩
theorem sc_Parcel_calls : FnScope ["self"] ["self"] (defScope s_Parcel_calls) := ⟨rfl, rfl, rfl, by decide +kernel, rfl, by decide +kernel, by decide +kernel⟩
theorem sc_Parcel_choices : FnScope ["self"] ["self"] (defScope s_Parcel_choices) := ⟨rfl, rfl, rfl, by decide +kernel, rfl, by decide +kernel, by decide +kernel⟩
theorem sc_Parcel_clashes : FnScope ["self"] ["self"] (defScope s_Parcel_clashes) := ⟨rfl, rfl, rfl, by decide +kernel, rfl, by decide +kernel, by decide +kernel⟩
theorem sc_Parcel_deeds : FnScope ["self"] ["self"] (defScope s_Parcel_deeds) := ⟨rfl, rfl, rfl, by decide +kernel, rfl, by decide +kernel, by decide +kernel⟩
theorem sc_Parcel_edition : FnScope ["self"] ["self"] (defScope s_Parcel_edition) := ⟨rfl, rfl, rfl, by decide +kernel, rfl, by decide +kernel, by decide +kernel⟩
theorem sc_Parcel_files : FnScope ["self"] ["self"] (defScope s_Parcel_files) := ⟨rfl, rfl, rfl, by decide +kernel, rfl, by decide +kernel, by decide +kernel⟩
theorem sc_Parcel_needs : FnScope ["self"] ["self"] (defScope s_Parcel_needs) := ⟨rfl, rfl, rfl, by decide +kernel, rfl, by decide +kernel, by decide +kernel⟩
theorem sc_Parcel_settings : FnScope ["self"] ["self"] (defScope s_Parcel_settings) := ⟨rfl, rfl, rfl, by decide +kernel, rfl, by decide +kernel, by decide +kernel⟩
theorem sc_law_same : FnScope ["_law_found", "_law_name", "_law_year", "_law_own", "_law_told", "_law_due"] ["_law_found", "_law_name", "_law_year", "_law_own"] (defScope s_law_same) := ⟨rfl, rfl, rfl, by decide +kernel, rfl, by decide +kernel, by decide +kernel⟩
theorem sc_law_row : FnScope ["_law_word", "_law_thing", "_law_one", "_law_name", "_law_low"] ["_law_word", "_law_thing"] (defScope s_law_row) := ⟨rfl, rfl, rfl, by decide +kernel, rfl, by decide +kernel, by decide +kernel⟩
theorem sc_law_text : FnScope ["_law_name", "_law_year", "_law_parts_here", "_law_rows", "_law_words", "_law_part", "_law_thing"] ["_law_name", "_law_year", "_law_parts_here"] (defScope s_law_text) := ⟨rfl, rfl, rfl, by decide +kernel, rfl, by decide +kernel, by decide +kernel⟩
theorem sc_number_of : FnScope ["word", "figures", "sign"] ["word"] (defScope s_number_of) := ⟨rfl, rfl, rfl, by decide +kernel, rfl, by decide +kernel, by decide +kernel⟩
theorem sc_first_of : FnScope ["row", "words"] ["row"] (defScope s_first_of) := ⟨rfl, rfl, rfl, by decide +kernel, rfl, by decide +kernel, by decide +kernel⟩
theorem sc_look_at_text : FnScope ["text"] ["text"] (defScope s_look_at_text) := ⟨rfl, rfl, rfl, by decide +kernel, rfl, by decide +kernel, by decide +kernel⟩
theorem sc_name_of : FnScope ["word"] ["word"] (defScope s_name_of) := ⟨rfl, rfl, rfl, by decide +kernel, rfl, by decide +kernel, by decide +kernel⟩
theorem sc_option_of : FnScope ["word", "found", "name", "mark", "low"] ["word"] (defScope s_option_of) := ⟨rfl, rfl, rfl, by decide +kernel, rfl, by decide +kernel, by decide +kernel⟩
theorem sc_path_of : FnScope ["word"] ["word"] (defScope s_path_of) := ⟨rfl, rfl, rfl, by decide +kernel, rfl, by decide +kernel, by decide +kernel⟩
theorem sc_when_of : FnScope ["word", "found"] ["word"] (defScope s_when_of) := ⟨rfl, rfl, rfl, by decide +kernel, rfl, by decide +kernel, by decide +kernel⟩
theorem sc_thing_of : FnScope ["row", "word", "found", "words", "one", "sort", "reader"] ["row"] (defScope s_thing_of) := ⟨rfl, rfl, rfl, by decide +kernel, rfl, by decide +kernel, by decide +kernel⟩
theorem sc_read_parcel : FnScope ["text", "parts", "last", "e", "first", "name", "edition", "number", "row", "found", "needs", "ahead", "clashes", "files", "settings", "asides", "choices", "calls", "deeds", "rows", "word"] ["text"] (defScope s_read_parcel) := ⟨rfl, rfl, rfl, by decide +kernel, rfl, by decide +kernel, by decide +kernel⟩
theorem sc_shown_thing : FnScope ["word", "thing", "when", "mark", "by", "one", "name", "low"] ["word", "thing"] (defScope s_shown_thing) := ⟨rfl, rfl, rfl, by decide +kernel, rfl, by decide +kernel, by decide +kernel⟩
theorem sc_show_parcel : FnScope ["parcel", "parts", "rows", "word", "things", "thing"] ["parcel"] (defScope s_show_parcel) := ⟨rfl, rfl, rfl, by decide +kernel, rfl, by decide +kernel, by decide +kernel⟩
theorem sc_law : FnScope ["_law_script", "_law_turn", "_law_cell", "_law_d", "_law_own", "_law_parcel_here", "_law_due", "_law_found", "_law_name", "_law_year"] ["_law_script"] (defScope s_law) := ⟨rfl, rfl, rfl, by decide +kernel, rfl, by decide +kernel, by decide +kernel⟩
theorem sc_NoText_init : FnScope ["self", "row"] ["self", "row"] (defScope s_NoText_init) := ⟨rfl, rfl, rfl, by decide +kernel, rfl, by decide +kernel, by decide +kernel⟩
theorem nC_Parcel : nmC cC_Parcel = "Parcel" := by decide +kernel
abbrev cv_is_clash : Nat := 7598521876928885608
theorem nv_is_clash : nmC cv_is_clash = "is_clash" := by decide +kernel
abbrev cv_is_file : Nat := 29681726131891301
theorem nv_is_file : nmC cv_is_file = "is_file" := by decide +kernel
abbrev cv_is_deed : Nat := 29681726098072932
theorem nv_is_deed : nmC cv_is_deed = "is_deed" := by decide +kernel
abbrev cv_is_name : Nat := 29681726265584997
theorem nv_is_name : nmC cv_is_name = "is_name" := by decide +kernel
abbrev cv_is_choice : Nat := 1945221600476849070949
theorem nv_is_choice : nmC cv_is_choice = "is_choice" := by decide +kernel
abbrev cv_is_aside : Nat := 7598521868456911973
theorem nv_is_aside : nmC cv_is_aside = "is_aside" := by decide +kernel
abbrev cv_is_need : Nat := 29681726265845092
theorem nv_is_need : nmC cv_is_need = "is_need" := by decide +kernel
abbrev cv_is_option : Nat := 1945221613705432231790
theorem nv_is_option : nmC cv_is_option = "is_option" := by decide +kernel
theorem nC_NoText : nmC cC_NoText = "NoText" := by decide +kernel
theorem nC_NoParcel : nmC cC_NoParcel = "NoParcel" := by decide +kernel
theorem nt_FORMS : nmC ct_FORMS = "FORMS" := by decide +kernel
theorem nv_name_of : nmC cv_name_of = "name_of" := by decide +kernel
theorem nv_number_of : nmC cv_number_of = "number_of" := by decide +kernel
theorem nv_path_of : nmC cv_path_of = "path_of" := by decide +kernel
theorem nv_when_of : nmC cv_when_of = "when_of" := by decide +kernel
theorem nt_READERS : nmC ct_READERS = "READERS" := by decide +kernel
theorem nC_WholeError : nmC cC_WholeError = "WholeError" := by decide +kernel
def isAll : List Nat := [cC_Parcel]
/-! what the defs are worth -/
def kb_b_Parcel_init_3_needs_ahead_clashes_files_settings_asides_choices_calls_deeds {α : Type} (us mv ws : List α) : List α := (pk us 0 (pk us 1 (pk us 2 (pk ws 0 (pk ws 1 (pk ws 2 (pk ws 3 (pk ws 4 (pk ws 5 (pk ws 6 (pk ws 7 (pk ws 8 []))))))))))))
def K_b_Parcel_init_3_needs_ahead_clashes_files_settings_asides_choices_calls_deeds (ds es : List D) : List D := kb_b_Parcel_init_3_needs_ahead_clashes_files_settings_asides_choices_calls_deeds ds [] es
def kb_b_is_from_1_most {α : Type} (us mv ws : List α) : List α := (pk us 0 (pk mv 0 (pk ws 0 [])))
def K_b_is_from_1_most (ds es : List D) : List D := kb_b_is_from_1_most ds [.int 0] es
def kb_b_is_from_1_least_most {α : Type} (us mv ws : List α) : List α := (pk us 0 (pk ws 0 (pk ws 1 [])))
def K_b_is_from_1_least_most (ds es : List D) : List D := kb_b_is_from_1_least_most ds [] es
def g_Parcel_eq : FS := (gseq (gif (tnot (dtest (dcallB (bIsiO (.glo cC_Parcel) isAll (ktL yes_Parcel no_Parcel)) (aCons (dvar 1) (aCons (dc (.glo cC_Parcel)) aNil))))) (gret (dc (.bl false))) gnil)
  (gseq (gif (tor (dtest (dbin dNeX (dat [cC_Parcel] "own_name" (dvar 0)) (dat [cC_Parcel] "own_name" (dvar 1)))) (dtest (dbin dNeX (dat [cC_Parcel] "own_edition" (dvar 0)) (dat [cC_Parcel] "own_edition" (dvar 1))))) (gret (dc (.bl false))) gnil)
  (gret (dbin dEq (dat [cC_Parcel] "own_parts" (dvar 0)) (dat [cC_Parcel] "own_parts" (dvar 1))))))
def F_Parcel_eq : List D → Mu → R D := framed <| callF 2 g_Parcel_eq
def g_law_digits : FS := (gseq (gasg (.nm 3) (dcallB bAbs (aCons (dvar 0) aNil)))
  (gseq (gasg (.nm 4) (dbin geD (dvar 3) (dbin powD (dc (.int 10)) (dc (.int 18)))))
  (gseq (gasg (.nm 5) (dbin addX (dbin modD (dvar 3) (dc (.int 2147483647))) (dbin mulX (dc (.int 7919)) (dvar 1))))
  (gseq (gasg (.nm 6) (dcel aNil))
  (gseq (gfor (itEX (aCons (dvar 2) aNil)) (.tp [(.nm 7), (.nm 8)]) (gif (tand (dtest (dvar 4)) (dtest (dbin gtD (dvar 3) (dc (.int 0))))) (gseq (gexpr (dbm "list" mAppend (dvar 6) (aCons (dbin modD (dvar 3) (dvar 8)) aNil)))
  (gasg (.nm 3) (dbin fdivD (dvar 3) (dvar 8)))) (gseq (gasg (.nm 5) (dbin modD (dbin powD (dbin addX (dvar 5) (dbin mulX (dc (.int 104729)) (dbin addX (dvar 7) (dc (.int 1))))) (dc (.int 2))) (dc (.int 2147483587))))
  (gexpr (dbm "list" mAppend (dvar 6) (aCons (dbin modD (dbin fdivD (dvar 5) (dc (.int 16))) (dvar 8)) aNil))))))
  (gret (dfrz (dvar 6))))))))
def F_law_digits : List D → Mu → R D := framed <| callF 9 g_law_digits
def g_is_name : FS := (gret (dand (dcallB bIsi (aCons (dvar 0) (aCons (dc (.cst (.ty "str"))) aNil))) (dand (dchain leD leD (dc (.int 1)) (dcallB bLen (aCons (dvar 0) aNil)) (dc (.int 8))) (dcallB bAll (aCons (dlc (itA (dvar 0)) [1] (.nm 1) tyes (dbin dIn (dvar 1) (dc (.str "abcdefghijklmnopqrstuvwxyz")))) aNil)))))
def F_is_name : List D → Mu → R D := framed <| callF 2 g_is_name
def g_is_path : FS := (gseq (gif (tnot (dtest (dcallB bIsi (aCons (dvar 0) (aCons (dc (.cst (.ty "str"))) aNil))))) (gret (dc (.bl false))) gnil)
  (gseq (gasg (.nm 1) (dbm "str" mSplit (dvar 0) (aCons (dc (.str "/")) aNil)))
  (gret (dand (dbin leD (dcallB bLen (aCons (dvar 1) aNil)) (dc (.int 3))) (dcallB bAll (aCons (dlc (itA (dvar 1)) [2] (.nm 2) tyes (dcall F_is_name [] (aCons (dvar 2) aNil))) aNil))))))
def F_is_path : List D → Mu → R D := framed <| callF 3 g_is_path
def g_is_tuple : FS := (gret (dand (dcallB bIsi (aCons (dvar 0) (aCons (dc (.cst (.ty "tuple"))) aNil))) (dbin dEq (dcallB bLen (aCons (dvar 0) aNil)) (dvar 1))))
def F_is_tuple : List D → Mu → R D := framed <| callF 2 g_is_tuple
def g_is_aside : FS := (gret (dand (dcall F_is_tuple [] (aCons (dvar 0) (aCons (dc (.int 2)) aNil))) (dand (dcall F_is_path [] (aCons (dbin dIx (dvar 0) (dc (.int 0))) aNil)) (dcall F_is_path [] (aCons (dbin dIx (dvar 0) (dc (.int 1))) aNil)))))
def F_is_aside : List D → Mu → R D := framed <| callF 1 g_is_aside
def g_is_whole : FS := (gret (dand (dcallB bIsi (aCons (dvar 0) (aCons (dc (.cst (.ty "int"))) aNil))) (dnot (dcallB bIsi (aCons (dvar 0) (aCons (dc (.cst (.ty "bool"))) aNil))))))
def F_is_whole : List D → Mu → R D := framed <| callF 1 g_is_whole
def g_is_from : FS := (gret (dand (dcall F_is_whole [] (aCons (dvar 0) aNil)) (dchain leD leD (dvar 1) (dvar 0) (dvar 2))))
def F_is_from : List D → Mu → R D := framed <| callF 3 g_is_from
def g_is_choice : FS := (gret (dand (dcall F_is_tuple [] (aCons (dvar 0) (aCons (dc (.int 3)) aNil))) (dand (dcall F_is_path [] (aCons (dbin dIx (dvar 0) (dc (.int 0))) aNil)) (dand (dcall F_is_path [] (aCons (dbin dIx (dvar 0) (dc (.int 1))) aNil)) (dcallK F_is_from K_b_is_from_1_most (aCons (dbin dIx (dvar 0) (dc (.int 2))) aNil) (aCons (dc (.int 99)) aNil))))))
def F_is_choice : List D → Mu → R D := framed <| callF 1 g_is_choice
def g_is_edition : FS := (gret (dcallK F_is_from K_b_is_from_1_least_most (aCons (dvar 0) aNil) (aCons (dc (.int 1)) (aCons (dc (.int 999)) aNil))))
def F_is_edition : List D → Mu → R D := framed <| callF 1 g_is_edition
def g_is_clash : FS := (gseq (gif (tor (tnot (dtest (dcall F_is_tuple [] (aCons (dvar 0) (aCons (dc (.int 3)) aNil))))) (tnot (dtest (dcall F_is_name [] (aCons (dbin dIx (dvar 0) (dc (.int 0))) aNil))))) (gret (dc (.bl false))) gnil)
  (gret (dand (dcall F_is_edition [] (aCons (dbin dIx (dvar 0) (dc (.int 1))) aNil)) (dand (dcall F_is_edition [] (aCons (dbin dIx (dvar 0) (dc (.int 2))) aNil)) (dbin leD (dbin dIx (dvar 0) (dc (.int 1))) (dbin dIx (dvar 0) (dc (.int 2))))))))
def F_is_clash : List D → Mu → R D := framed <| callF 1 g_is_clash
def g_is_deed : FS := (gseq (gif (tor (tnot (dtest (dcall F_is_tuple [] (aCons (dvar 0) (aCons (dc (.int 3)) aNil))))) (tor (tnot (dtest (dcallB bIsi (aCons (dbin dIx (dvar 0) (dc (.int 0))) (aCons (dc (.cst (.ty "str"))) aNil))))) (dtest (dbin dNotIn (dbin dIx (dvar 0) (dc (.int 0))) (dc (.tup [(.str "ahead put"), (.str "behind set"), (.str "ahead loose")])))))) (gret (dc (.bl false))) gnil)
  (gret (dand (dcall F_is_name [] (aCons (dbin dIx (dvar 0) (dc (.int 1))) aNil)) (dcallK F_is_from K_b_is_from_1_least_most (aCons (dbin dIx (dvar 0) (dc (.int 2))) aNil) (aCons (dneg (dc (.int 99))) (aCons (dc (.int 99)) aNil))))))
def F_is_deed : List D → Mu → R D := framed <| callF 1 g_is_deed
def g_is_worth : FS := (gret (dcallK F_is_from K_b_is_from_1_most (aCons (dvar 0) aNil) (aCons (dc (.int 1000000000)) aNil)))
def F_is_worth : List D → Mu → R D := framed <| callF 1 g_is_worth
def g_is_file : FS := (gret (dand (dcall F_is_tuple [] (aCons (dvar 0) (aCons (dc (.int 2)) aNil))) (dand (dcall F_is_path [] (aCons (dbin dIx (dvar 0) (dc (.int 0))) aNil)) (dcall F_is_worth [] (aCons (dbin dIx (dvar 0) (dc (.int 1))) aNil)))))
def F_is_file : List D → Mu → R D := framed <| callF 1 g_is_file
def g_is_option : FS := (gret (dand (dcall F_is_tuple [] (aCons (dvar 0) (aCons (dc (.int 2)) aNil))) (dand (dcall F_is_name [] (aCons (dbin dIx (dvar 0) (dc (.int 0))) aNil)) (dcall F_is_edition [] (aCons (dbin dIx (dvar 0) (dc (.int 1))) aNil)))))
def F_is_option : List D → Mu → R D := framed <| callF 1 g_is_option
def g_are_all_v1 : FS := (gret (dand (dcallB bIsi (aCons (dvar 0) (aCons (dc (.cst (.ty "tuple"))) aNil))) (dand (dbin leD (dcallB bLen (aCons (dvar 0) aNil)) (dvar 1)) (dcallB bAll (aCons (dlc (itA (dvar 0)) [3] (.nm 3) tyes (dchoose (isFn 2 cv_is_option) (dcallL 2 cv_is_option F_is_option [] (aCons (dvar 3) aNil)) dbad)) aNil)))))
def F_are_all_v1 : List D → Mu → R D := framed <| callF 4 g_are_all_v1
def g_heads_of : FS := (gret (dlc (itA (dvar 0)) [1] (.nm 1) tyes (dbin dIx (dvar 1) (dc (.int 0)))))
def F_heads_of : List D → Mu → R D := framed <| callF 2 g_heads_of
def g_is_need : FS := (gseq (gif (tor (tnot (dtest (dcall F_are_all_v1 [] (aCons (dvar 0) (aCons (dc (.int 3)) (aCons (dc (dfn cv_is_option)) aNil)))))) (dtest (dbin dEq (dvar 0) (dtup aNil)))) (gret (dc (.bl false))) gnil)
  (gret (dbin dEq (dlensetX (dcall F_heads_of [] (aCons (dvar 0) aNil))) (dcallB bLen (aCons (dvar 0) aNil)))))
def F_is_need : List D → Mu → R D := framed <| callF 1 g_is_need
def g_are_all_v2 : FS := (gret (dand (dcallB bIsi (aCons (dvar 0) (aCons (dc (.cst (.ty "tuple"))) aNil))) (dand (dbin leD (dcallB bLen (aCons (dvar 0) aNil)) (dvar 1)) (dcallB bAll (aCons (dlc (itA (dvar 0)) [3] (.nm 3) tyes (dchoose (isFn 2 cv_is_need) (dcallL 2 cv_is_need F_is_need [] (aCons (dvar 3) aNil)) (dchoose (isFn 2 cv_is_clash) (dcallL 2 cv_is_clash F_is_clash [] (aCons (dvar 3) aNil)) (dchoose (isFn 2 cv_is_file) (dcallL 2 cv_is_file F_is_file [] (aCons (dvar 3) aNil)) (dchoose (isFn 2 cv_is_aside) (dcallL 2 cv_is_aside F_is_aside [] (aCons (dvar 3) aNil)) (dchoose (isFn 2 cv_is_choice) (dcallL 2 cv_is_choice F_is_choice [] (aCons (dvar 3) aNil)) (dchoose (isFn 2 cv_is_name) (dcallL 2 cv_is_name F_is_name [] (aCons (dvar 3) aNil)) (dchoose (isFn 2 cv_is_deed) (dcallL 2 cv_is_deed F_is_deed [] (aCons (dvar 3) aNil)) dbad)))))))) aNil)))))
def F_are_all_v2 : List D → Mu → R D := framed <| callF 4 g_are_all_v2
def g_rise : FS := (gret (dcallB bAll (aCons (dlc (itZ (aCons (dvar 0) (aCons (dsl (dvar 0) (osome (dc (.int 1))) onone) aNil))) [1, 2] (.tp [(.nm 1), (.nm 2)]) tyes (dbin ltD (dvar 1) (dvar 2))) aNil)))
def F_rise : List D → Mu → R D := framed <| callF 3 g_rise
def g_are_rising : FS := (gret (dand (dcall F_are_all_v2 [] (aCons (dvar 0) (aCons (dvar 1) (aCons (dvar 2) aNil)))) (dcall F_rise [] (aCons (dcall F_heads_of [] (aCons (dvar 0) aNil)) aNil))))
def F_are_rising : List D → Mu → R D := framed <| callF 3 g_are_rising
def g_are_asides : FS := (gseq (gif (tnot (dtest (dcall F_are_rising [] (aCons (dvar 0) (aCons (dc (.int 3)) (aCons (dc (dfn cv_is_aside)) aNil)))))) (gret (dc (.bl false))) gnil)
  (gseq (gasg (.nm 3) (dcall F_heads_of [] (aCons (dvar 0) aNil)))
  (gseq (gasg (.nm 4) (dlc (itA (dvar 0)) [5, 6] (.tp [(.nm 5), (.nm 6)]) tyes (dvar 6)))
  (gseq (gif (tor (dtest (dbin dNeX (dlensetX (dvar 4)) (dcallB bLen (aCons (dvar 4) aNil)))) (dtest (dcallB bAny (aCons (dlc (itA (dvar 3)) [5] (.nm 5) tyes (dbin dIn (dvar 5) (dcall F_heads_of [] (aCons (dvar 2) aNil)))) aNil)))) (gret (dc (.bl false))) gnil)
  (gret (dnot (dcallB bAny (aCons (dlc (itA (dvar 4)) [6] (.nm 6) tyes (dbin dIn (dvar 6) (dbin addX (dbin addX (dvar 3) (dcall F_heads_of [] (aCons (dvar 1) aNil))) (dcall F_heads_of [] (aCons (dvar 2) aNil))))) aNil))))))))
def F_are_asides : List D → Mu → R D := framed <| callF 7 g_are_asides
def g_are_calls : FS := (gret (dand (dcall F_are_all_v2 [] (aCons (dvar 0) (aCons (dc (.int 4)) (aCons (dc (dfn cv_is_name)) aNil)))) (dcall F_rise [] (aCons (dvar 0) aNil))))
def F_are_calls : List D → Mu → R D := framed <| callF 1 g_are_calls
def g_are_choices : FS := (gseq (gif (tnot (dtest (dcall F_are_rising [] (aCons (dvar 0) (aCons (dc (.int 3)) (aCons (dc (dfn cv_is_choice)) aNil)))))) (gret (dc (.bl false))) gnil)
  (gseq (gif (dtest (dcallB bAny (aCons (dlc (itA (dcall F_heads_of [] (aCons (dvar 0) aNil))) [3] (.nm 3) tyes (dbin dIn (dvar 3) (dbin addX (dcall F_heads_of [] (aCons (dvar 1) aNil)) (dcall F_heads_of [] (aCons (dvar 2) aNil))))) aNil))) (gret (dc (.bl false))) gnil)
  (gret (dcallB bAll (aCons (dlc (itA (dvar 0)) [3, 4, 5] (.tp [(.nm 3), (.nm 4), (.nm 5)]) tyes (dbin dIn (dvar 4) (dcall F_heads_of [] (aCons (dvar 1) aNil)))) aNil)))))
def F_are_choices : List D → Mu → R D := framed <| callF 6 g_are_choices
def g_are_needs : FS := (gret (dand (dcall F_are_all_v2 [] (aCons (dvar 1) (aCons (dc (.int 4)) (aCons (dc (dfn cv_is_need)) aNil)))) (dnot (dcallB bAny (aCons (dlc (itA (dvar 1)) [2] (.nm 2) tyes (dbin dIn (dvar 0) (dcall F_heads_of [] (aCons (dvar 2) aNil)))) aNil)))))
def F_are_needs : List D → Mu → R D := framed <| callF 3 g_are_needs
def g_Parcel_init : FS := (gseq (gif (tnot (dtest (dcall F_is_name [] (aCons (dvar 1) aNil)))) gbad gnil)
  (gseq (gif (tnot (dtest (dcall F_is_edition [] (aCons (dvar 2) aNil)))) gbad gnil)
  (gseq (gif (tnot (dtest (dcall F_are_needs [] (aCons (dvar 1) (aCons (dvar 3) aNil))))) gbad gnil)
  (gseq (gif (tnot (dtest (dcall F_are_needs [] (aCons (dvar 1) (aCons (dvar 4) aNil))))) gbad gnil)
  (gseq (gif (tor (tnot (dtest (dcall F_are_all_v2 [] (aCons (dvar 5) (aCons (dc (.int 4)) (aCons (dc (dfn cv_is_clash)) aNil)))))) (dtest (dbin dIn (dvar 1) (dcall F_heads_of [] (aCons (dvar 5) aNil))))) gbad gnil)
  (gseq (gif (tnot (dtest (dcall F_are_rising [] (aCons (dvar 6) (aCons (dc (.int 8)) (aCons (dc (dfn cv_is_file)) aNil)))))) gbad gnil)
  (gseq (gif (tor (tnot (dtest (dcall F_are_rising [] (aCons (dvar 7) (aCons (dc (.int 8)) (aCons (dc (dfn cv_is_file)) aNil)))))) (dtest (dcallB bAny (aCons (dlc (itA (dcall F_heads_of [] (aCons (dvar 7) aNil))) [12] (.nm 12) tyes (dbin dIn (dvar 12) (dcall F_heads_of [] (aCons (dvar 6) aNil)))) aNil)))) gbad gnil)
  (gseq (gif (tnot (dtest (dcall F_are_asides [] (aCons (dvar 8) (aCons (dvar 6) (aCons (dvar 7) aNil)))))) gbad gnil)
  (gseq (gif (tnot (dtest (dcall F_are_choices [] (aCons (dvar 9) (aCons (dvar 6) (aCons (dvar 7) aNil)))))) gbad gnil)
  (gseq (gif (tnot (dtest (dcall F_are_calls [] (aCons (dvar 10) aNil)))) gbad gnil)
  (gseq (gif (tnot (dtest (dcall F_are_all_v2 [] (aCons (dvar 11) (aCons (dc (.int 4)) (aCons (dc (dfn cv_is_deed)) aNil)))))) gbad gnil)
  (gseq (gsetat [cC_Parcel] "own_name" (dvar 0) (dvar 1))
  (gseq (gsetat [cC_Parcel] "own_edition" (dvar 0) (dvar 2))
  (gsetat [cC_Parcel] "own_parts" (dvar 0) (dtup (aCons (dvar 3) (aCons (dvar 4) (aCons (dvar 5) (aCons (dvar 6) (aCons (dvar 7) (aCons (dvar 8) (aCons (dvar 9) (aCons (dvar 10) (aCons (dvar 11) aNil))))))))))))))))))))))))
def F_Parcel_init : List D → Mu → R D := framed <| callF 13 g_Parcel_init
def g_law_parcel : FS := (gret (dmakeK (makeO cC_Parcel F_Parcel_init) K_b_Parcel_init_3_needs_ahead_clashes_files_settings_asides_choices_calls_deeds (aCons (dvar 0) (aCons (dvar 1) aNil)) (aCons (dbin dIxX (dvar 2) (dc (.str "needs"))) (aCons (dbin dIxX (dvar 2) (dc (.str "ahead"))) (aCons (dbin dIxX (dvar 2) (dc (.str "clashes"))) (aCons (dbin dIxX (dvar 2) (dc (.str "files"))) (aCons (dbin dIxX (dvar 2) (dc (.str "settings"))) (aCons (dbin dIxX (dvar 2) (dc (.str "asides"))) (aCons (dbin dIxX (dvar 2) (dc (.str "choices"))) (aCons (dbin dIxX (dvar 2) (dc (.str "calls"))) (aCons (dbin dIxX (dvar 2) (dc (.str "deeds"))) aNil)))))))))))
def F_law_parcel : List D → Mu → R D := framed <| callF 3 g_law_parcel
def g_law_needs : FS := (gseq (gasg (.nm 2) (dcel aNil))
  (gseq (gfor (itR1 (aCons (dbin modD (dbin dIx (dvar 0) (dvar 1)) (dc (.int 5))) aNil)) (.nm 3) (gseq (gasg (.nm 4) (dcel aNil))
  (gseq (gfor (itR1 (aCons (dbin addX (dc (.int 1)) (dbin modD (dbin addX (dbin dIx (dvar 0) (dbin addX (dvar 1) (dc (.int 1)))) (dvar 3)) (dc (.int 3)))) aNil)) (.nm 5) (gexpr (dbm "list" mAppend (dvar 4) (aCons (dtup (aCons (dbin dIx (dlst (aCons (dc (.str "b")) (aCons (dc (.str "cc")) (aCons (dc (.str "zzzzzzzz")) aNil)))) (dbin modD (dbin addX (dvar 3) (dvar 5)) (dc (.int 3)))) (aCons (dbin dIx (dlst (aCons (dc (.int 1)) (aCons (dc (.int 7)) (aCons (dc (.int 999)) aNil)))) (dbin modD (dbin addX (dvar 5) (dbin dIx (dvar 0) (dvar 1))) (dc (.int 3)))) aNil))) aNil))))
  (gexpr (dbm "list" mAppend (dvar 2) (aCons (dcallB bTupleX (aCons (dvar 4) aNil)) aNil))))))
  (gret (dcallB bTupleX (aCons (dvar 2) aNil)))))
def F_law_needs : List D → Mu → R D := framed <| callF 6 g_law_needs
def g_law_paths : FS := (gret (dsl (dcallB bSorted (aCons (dvar 0) aNil)) onone (osome (dvar 1))))
def F_law_paths : List D → Mu → R D := framed <| callF 2 g_law_paths
def g_law_parts : FS := (gseq (gasg (.nm 1) (dcall F_law_paths [] (aCons (dlst (aCons (dc (.str "a")) (aCons (dc (.str "a/b")) (aCons (dc (.str "bin/ls")) (aCons (dc (.str "x/y/z")) (aCons (dc (.str "abcdefgh/abcdefgh/abcdefgh")) (aCons (dc (.str "q")) (aCons (dc (.str "r")) (aCons (dc (.str "t/u")) aNil))))))))) (aCons (dbin dIxX (dvar 0) (dc (.int 4))) aNil))))
  (gseq (gasg (.nm 2) (dcall F_law_paths [] (aCons (dlst (aCons (dc (.str "etc")) (aCons (dc (.str "etc/a")) (aCons (dc (.str "w/x/y")) (aCons (dc (.str "zz")) aNil))))) (aCons (dbin modD (dbin dIxX (dvar 0) (dc (.int 5))) (dc (.int 5))) aNil))))
  (gseq (gasg (.nm 3) (dcall F_law_paths [] (aCons (dlst (aCons (dc (.str "bin/ls")) (aCons (dc (.str "far")) (aCons (dc (.str "k/l")) aNil)))) (aCons (dbin modD (dbin dIxX (dvar 0) (dc (.int 6))) (dc (.int 4))) aNil))))
  (gseq (gasg (.nm 4) (dcall F_law_paths [] (aCons (dlst (aCons (dc (.str "edit")) (aCons (dc (.str "view/it")) (aCons (dc (.str "sh")) aNil)))) (aCons (dbin mulS (dbin modD (dbin dIxX (dvar 0) (dc (.int 7))) (dc (.int 4))) (dcallB bInt (aCons (dbin dNeC (dvar 1) (dlst aNil)) aNil))) aNil))))
  (gseq (gasg (.nm 5) (dDisp [((dc (.str "needs")), (dcall F_law_needs [] (aCons (dvar 0) (aCons (dc (.int 0)) aNil)))), ((dc (.str "ahead")), (dcall F_law_needs [] (aCons (dvar 0) (aCons (dc (.int 2)) aNil))))]))
  (gseq (gsetixX (dvar 5) (dc (.str "clashes")) (dcallB bTupleX (aCons (dlc (itR1 (aCons (dbin modD (dbin modD (dbin dIxX (dvar 0) (dc (.int 8))) (dc (.int 5))) (dc (.int 4))) aNil)) [7] (.nm 7) tyes (dtup (aCons (dbin mulS (dbin dIxX (dc (.str "abc")) (dvar 7)) (dbin addX (dc (.int 1)) (dvar 7))) (aCons (dbin addX (dc (.int 1)) (dvar 7)) (aCons (dbin dIxX (dlst (aCons (dbin addX (dc (.int 1)) (dvar 7)) (aCons (dc (.int 999)) aNil))) (dbin modD (dbin dIxX (dvar 0) (dc (.int 8))) (dc (.int 2)))) aNil))))) aNil)))
  (gseq (gsetixX (dvar 5) (dc (.str "files")) (dcallB bTupleX (aCons (dlc (itEX (aCons (dvar 1) aNil)) [7, 8] (.tp [(.nm 7), (.nm 8)]) tyes (dtup (aCons (dvar 8) (aCons (dbin dIxX (dlst (aCons (dc (.int 0)) (aCons (dc (.int 1)) (aCons (dbin powD (dc (.int 10)) (dc (.int 9))) (aCons (dc (.int 77)) aNil))))) (dbin modD (dbin addX (dvar 7) (dbin dIxX (dvar 0) (dc (.int 9)))) (dc (.int 4)))) aNil)))) aNil)))
  (gseq (gsetixX (dvar 5) (dc (.str "settings")) (dcallB bTupleX (aCons (dlc (itEX (aCons (dvar 2) aNil)) [7, 8] (.tp [(.nm 7), (.nm 8)]) tyes (dtup (aCons (dvar 8) (aCons (dbin dIxX (dlst (aCons (dc (.int 5)) (aCons (dbin powD (dc (.int 10)) (dc (.int 9))) aNil))) (dbin modD (dvar 7) (dc (.int 2)))) aNil)))) aNil)))
  (gseq (gsetixX (dvar 5) (dc (.str "asides")) (dcallB bTupleX (aCons (dlc (itEX (aCons (dvar 3) aNil)) [7, 8] (.tp [(.nm 7), (.nm 8)]) tyes (dtup (aCons (dvar 8) (aCons (dbin addX (dc (.str "led/")) (dbin dIxX (dc (.str "abc")) (dvar 7))) aNil)))) aNil)))
  (gseq (gsetixX (dvar 5) (dc (.str "choices")) (dcallB bTupleX (aCons (dlc (itEX (aCons (dvar 4) aNil)) [7, 8] (.tp [(.nm 7), (.nm 8)]) tyes (dtup (aCons (dvar 8) (aCons (dbin dIxX (dvar 1) (dbin modD (dvar 7) (dcallB bLen (aCons (dvar 1) aNil)))) (aCons (dbin dIxX (dlst (aCons (dc (.int 0)) (aCons (dc (.int 99)) (aCons (dc (.int 5)) aNil)))) (dvar 7)) aNil))))) aNil)))
  (gseq (gsetixX (dvar 5) (dc (.str "calls")) (dcallB bTupleX (aCons (dsl (dlst (aCons (dc (.str "b")) (aCons (dc (.str "cc")) (aCons (dc (.str "fonts")) (aCons (dc (.str "menus")) aNil))))) onone (osome (dbin modD (dbin dIxX (dvar 0) (dc (.int 10))) (dc (.int 5))))) aNil)))
  (gseq (gasg (.nm 6) (dlst (aCons (dtup (aCons (dc (.str "ahead put")) (aCons (dc (.str "n")) (aCons (dc (.int 99)) aNil)))) (aCons (dtup (aCons (dc (.str "behind set")) (aCons (dc (.str "zzzzzzzz")) (aCons (dneg (dc (.int 99))) aNil)))) (aCons (dtup (aCons (dc (.str "ahead loose")) (aCons (dc (.str "m")) (aCons (dc (.int 0)) aNil)))) (aCons (dtup (aCons (dc (.str "ahead put")) (aCons (dc (.str "n")) (aCons (dneg (dc (.int 1))) aNil)))) aNil))))))
  (gseq (gsetixX (dvar 5) (dc (.str "deeds")) (dcallB bTupleX (aCons (dsl (dvar 6) onone (osome (dbin modD (dbin dIxX (dvar 0) (dc (.int 11))) (dc (.int 5))))) aNil)))
  (gret (dvar 5)))))))))))))))
def F_law_parts : List D → Mu → R D := callF 9 g_law_parts
def g_Parcel_ahead : FS := (gret (dbin dIxX (dat [cC_Parcel] "own_parts" (dvar 0)) (dc (.int 1))))
def F_Parcel_ahead : List D → Mu → R D := framed <| callF 1 g_Parcel_ahead
def g_Parcel_asides : FS := (gret (dbin dIxX (dat [cC_Parcel] "own_parts" (dvar 0)) (dc (.int 5))))
def F_Parcel_asides : List D → Mu → R D := framed <| callF 1 g_Parcel_asides
def g_Parcel_called : FS := (gret (dat [cC_Parcel] "own_name" (dvar 0)))
def F_Parcel_called : List D → Mu → R D := framed <| callF 1 g_Parcel_called
def g_Parcel_calls : FS := (gret (dbin dIxX (dat [cC_Parcel] "own_parts" (dvar 0)) (dc (.int 7))))
def F_Parcel_calls : List D → Mu → R D := framed <| callF 1 g_Parcel_calls
def g_Parcel_choices : FS := (gret (dbin dIxX (dat [cC_Parcel] "own_parts" (dvar 0)) (dc (.int 6))))
def F_Parcel_choices : List D → Mu → R D := framed <| callF 1 g_Parcel_choices
def g_Parcel_clashes : FS := (gret (dbin dIxX (dat [cC_Parcel] "own_parts" (dvar 0)) (dc (.int 2))))
def F_Parcel_clashes : List D → Mu → R D := framed <| callF 1 g_Parcel_clashes
def g_Parcel_deeds : FS := (gret (dbin dIxX (dat [cC_Parcel] "own_parts" (dvar 0)) (dc (.int 8))))
def F_Parcel_deeds : List D → Mu → R D := framed <| callF 1 g_Parcel_deeds
def g_Parcel_edition : FS := (gret (dat [cC_Parcel] "own_edition" (dvar 0)))
def F_Parcel_edition : List D → Mu → R D := framed <| callF 1 g_Parcel_edition
def g_Parcel_files : FS := (gret (dbin dIxX (dat [cC_Parcel] "own_parts" (dvar 0)) (dc (.int 3))))
def F_Parcel_files : List D → Mu → R D := framed <| callF 1 g_Parcel_files
def g_Parcel_needs : FS := (gret (dbin dIx (dat [cC_Parcel] "own_parts" (dvar 0)) (dc (.int 0))))
def F_Parcel_needs : List D → Mu → R D := framed <| callF 1 g_Parcel_needs
def g_Parcel_settings : FS := (gret (dbin dIxX (dat [cC_Parcel] "own_parts" (dvar 0)) (dc (.int 4))))
def F_Parcel_settings : List D → Mu → R D := framed <| callF 1 g_Parcel_settings
def g_law_same : FS := (gseq (gif (tor (dtest (dbin dNeC (dmeth cC_Parcel "called" F_Parcel_called [] (dvar 0) aNil) (dvar 1))) (dtest (dbin dNeC (dmeth cC_Parcel "edition" F_Parcel_edition [] (dvar 0) aNil) (dvar 2)))) (gret (dc (.bl false))) gnil)
  (gseq (gasg (.nm 4) (dlst (aCons (dmeth cC_Parcel "needs" F_Parcel_needs [] (dvar 0) aNil) (aCons (dmeth cC_Parcel "ahead" F_Parcel_ahead [] (dvar 0) aNil) (aCons (dmeth cC_Parcel "clashes" F_Parcel_clashes [] (dvar 0) aNil) (aCons (dmeth cC_Parcel "files" F_Parcel_files [] (dvar 0) aNil) (aCons (dmeth cC_Parcel "settings" F_Parcel_settings [] (dvar 0) aNil) aNil)))))))
  (gseq (gasg (.nm 4) (dbin addX (dvar 4) (dlst (aCons (dmeth cC_Parcel "asides" F_Parcel_asides [] (dvar 0) aNil) (aCons (dmeth cC_Parcel "choices" F_Parcel_choices [] (dvar 0) aNil) (aCons (dmeth cC_Parcel "calls" F_Parcel_calls [] (dvar 0) aNil) (aCons (dmeth cC_Parcel "deeds" F_Parcel_deeds [] (dvar 0) aNil) aNil)))))))
  (gseq (gasg (.nm 5) (dlst (aCons (dbin dIxX (dvar 3) (dc (.str "needs"))) (aCons (dbin dIxX (dvar 3) (dc (.str "ahead"))) (aCons (dbin dIxX (dvar 3) (dc (.str "clashes"))) (aCons (dbin dIxX (dvar 3) (dc (.str "files"))) (aCons (dbin dIxX (dvar 3) (dc (.str "settings"))) aNil)))))))
  (gret (dbin dEqM (dcallB bReprM (aCons (dvar 4) aNil)) (dcallB bReprM (aCons (dbin addX (dvar 5) (dlst (aCons (dbin dIxX (dvar 3) (dc (.str "asides"))) (aCons (dbin dIxX (dvar 3) (dc (.str "choices"))) (aCons (dbin dIxX (dvar 3) (dc (.str "calls"))) (aCons (dbin dIxX (dvar 3) (dc (.str "deeds"))) aNil)))))) aNil))))))))
def F_law_same : List D → Mu → R D := framed <| callF 6 g_law_same
def g_law_row : FS := (gseq (gif (dtest (dbin dEqM (dvar 0) (dc (.str "call")))) (gret (dbin addX (dc (.str "call ")) (dvar 1))) gnil)
  (gseq (gif (dtest (dbin (inX true dIn) (dvar 0) (dtup (aCons (dc (.str "needs")) (aCons (dc (.str "ahead")) aNil))))) (gret (dbm "str" mJoin (dc (.str " ")) (aCons (dbin addX (dlst (aCons (dvar 0) aNil)) (dlc (itA (dvar 1)) [3, 4] (.tp [(.nm 3), (.nm 4)]) tyes (dbin addX (dbin addX (dvar 3) (dc (.str ">"))) (dcallB bStr (aCons (dvar 4) aNil))))) aNil))) gnil)
  (gseq (gif (dtest (dbin dEqM (dvar 0) (dc (.str "deed")))) (gret (dbin addX (dbin addX (dbin addX (dbin addX (dbin addX (dc (.str "deed ")) (dreplC " " "-" (dbin dIxX (dvar 1) (dc (.int 0))))) (dc (.str " "))) (dbin dIxX (dvar 1) (dc (.int 1)))) (dc (.str " "))) (dcallB bStr (aCons (dbin dIxX (dvar 1) (dc (.int 2))) aNil)))) gnil)
  (gret (dbm "str" mJoin (dc (.str " ")) (aCons (dbin addX (dlst (aCons (dvar 0) aNil)) (dlc (itA (dvar 1)) [2] (.nm 2) tyes (dcallB bStr (aCons (dvar 2) aNil)))) aNil))))))
def F_law_row : List D → Mu → R D := framed <| callF 5 g_law_row
def g_law_text : FS := (gseq (gasg (.nm 3) (dlst (aCons (dbin addX (dbin addX (dbin addX (dc (.str "parcel ")) (dvar 0)) (dc (.str " "))) (dcallB bStr (aCons (dvar 1) aNil))) aNil)))
  (gseq (gasg (.nm 4) (dDisp [((dc (.str "clashes")), (dc (.str "clashes"))), ((dc (.str "files")), (dc (.str "file"))), ((dc (.str "settings")), (dc (.str "setting"))), ((dc (.str "asides")), (dc (.str "aside"))), ((dc (.str "choices")), (dc (.str "choice")))]))
  (gseq (gexpr (dbm "dict" mUpdate (dvar 4) (aCons (dDisp [((dc (.str "needs")), (dc (.str "needs"))), ((dc (.str "ahead")), (dc (.str "ahead"))), ((dc (.str "calls")), (dc (.str "call"))), ((dc (.str "deeds")), (dc (.str "deed")))]) aNil)))
  (gseq (gfor (itA (dlst (aCons (dc (.str "needs")) (aCons (dc (.str "ahead")) (aCons (dc (.str "clashes")) (aCons (dc (.str "files")) (aCons (dc (.str "settings")) (aCons (dc (.str "asides")) (aCons (dc (.str "choices")) (aCons (dc (.str "calls")) (aCons (dc (.str "deeds")) aNil))))))))))) (.nm 5) (gasg (.nm 3) (dbin addX (dvar 3) (dlc (itA (dbin dIxX (dvar 2) (dvar 5))) [6] (.nm 6) tyes (dcall F_law_row [] (aCons (dbin dIxX (dvar 4) (dvar 5)) (aCons (dvar 6) aNil)))))))
  (gret (dbm "str" mJoin (dc (.str "\n")) (aCons (dvar 3) aNil)))))))
def F_law_text : List D → Mu → R D := framed <| callF 7 g_law_text
def g_number_of : FS := (gseq (gasg (.nm 1) (dite (dtest (dbm "str" mStarts (dvar 0) (aCons (dc (.str "-")) aNil))) (dsl (dvar 0) (osome (dc (.int 1))) onone) (dvar 0)))
  (gseq (gif (tor (tnot (dtest (dchain leD leD (dc (.int 1)) (dcallB bLen (aCons (dvar 1) aNil)) (dc (.int 10))))) (tnot (dtest (dcallB bAll (aCons (dlc (itA (dvar 1)) [2] (.nm 2) tyes (dbin (inX true dIn) (dvar 2) (dc (.str "0123456789")))) aNil))))) (gret (dc .non)) gnil)
  (gret (dite (dtest (dbin dEqM (dcallB bStr (aCons (dcallB bIntX (aCons (dvar 0) aNil)) aNil)) (dvar 0))) (dcallB bIntX (aCons (dvar 0) aNil)) (dc .non)))))
def F_number_of : List D → Mu → R D := framed <| callF 3 g_number_of
def g_first_of : FS := (gseq (gasg (.nm 1) (dbm "str" mSplit (dvar 0) (aCons (dc (.str " ")) aNil)))
  (gseq (gif (tor (dtest (dbin dNeC (dcallB bLen (aCons (dvar 1) aNil)) (dc (.int 3)))) (tor (dtest (dbin dNeC (dbin dIxX (dvar 1) (dc (.int 0))) (dc (.str "parcel")))) (tor (tnot (dtest (dcall F_is_name [] (aCons (dbin dIxX (dvar 1) (dc (.int 1))) aNil)))) (dtest (dbin isD (dcall F_number_of [] (aCons (dbin dIxX (dvar 1) (dc (.int 2))) aNil)) (dc .non)))))) (graise cC_NoText ["row"] (aCons (dc (.int 0)) aNil)) gnil)
  (gret (dtup (aCons (dbin dIxX (dvar 1) (dc (.int 1))) (aCons (dcall F_number_of [] (aCons (dbin dIxX (dvar 1) (dc (.int 2))) aNil)) aNil))))))
def F_first_of : List D → Mu → R D := framed <| callF 2 g_first_of
def g_look_at_text : FS := (gif (tnot (dtest (dcallB bIsi (aCons (dvar 0) (aCons (dc (.cst (.ty "str"))) aNil))))) (graise cC_NoText ["row"] (aCons (dc (.int 0)) aNil)) gnil)
def F_look_at_text : List D → Mu → R D := framed <| callF 1 g_look_at_text
def g_name_of : FS := (gret (dite (dtest (dcall F_is_name [] (aCons (dvar 0) aNil))) (dvar 0) (dc .non)))
def F_name_of : List D → Mu → R D := framed <| callF 1 g_name_of
def g_option_of : FS := (gseq (gasg (.tp [(.nm 2), (.nm 3), (.nm 4)]) (dbm "str" mPart (dvar 0) (aCons (dc (.str ">")) aNil)))
  (gseq (gasg (.nm 1) (dcall F_number_of [] (aCons (dvar 4) aNil)))
  (gret (dite (tand (dtest (dbin dNeC (dvar 3) (dc (.str "")))) (tand (dtest (dcall F_is_name [] (aCons (dvar 2) aNil))) (dtest (dbin isntD (dvar 1) (dc .non))))) (dtup (aCons (dvar 2) (aCons (dvar 1) aNil))) (dc .non)))))
def F_option_of : List D → Mu → R D := framed <| callF 5 g_option_of
def g_path_of : FS := (gret (dite (dtest (dcall F_is_path [] (aCons (dvar 0) aNil))) (dvar 0) (dc .non)))
def F_path_of : List D → Mu → R D := framed <| callF 1 g_path_of
def g_when_of : FS := (gseq (gasg (.nm 1) (dreplC "-" " " (dvar 0)))
  (gret (dite (tand (dtest (dbin (inX true dIn) (dvar 1) (dc (.tup [(.str "ahead put"), (.str "behind set"), (.str "ahead loose")])))) (dtest (dbin (inX false dNotIn) (dc (.str " ")) (dvar 0)))) (dvar 1) (dc .non))))
def F_when_of : List D → Mu → R D := framed <| callF 2 g_when_of
def g_thing_of : FS := (gseq (gstar 1 3 (dbm "str" mSplit (dvar 0) (aCons (dc (.str " ")) aNil)))
  (gseq (gif (dtest (dbin (inG false ct_FORMS tab_FORMS) (dvar 1) (dc (.glo ct_FORMS)))) (gret (dc .non)) gnil)
  (gseq (gif (dtest (dbin (inX true dIn) (dvar 1) (dtup (aCons (dc (.str "needs")) (aCons (dc (.str "ahead")) aNil))))) (gasg (.nm 2) (dlcC (itA (dvar 3)) [4] (.nm 4) tyes (dcall F_option_of [] (aCons (dvar 4) aNil)))) (gif (dtest (dbin dNeC (dcallB bLen (aCons (dvar 3) aNil)) (dcallB bLen (aCons (dbin (dIxG ct_FORMS tab_FORMS) (dc (.glo ct_FORMS)) (dvar 1)) aNil)))) (gret (dc .non)) (gseq (gasg (.nm 2) (dcel aNil))
  (gfor (itZT (aCons (dbin (dIxG ct_FORMS tab_FORMS) (dc (.glo ct_FORMS)) (dvar 1)) (aCons (dvar 3) aNil))) (.tp [(.nm 5), (.nm 4)]) (gseq (gasg (.nm 6) (dbin (dIxG ct_READERS tab_READERS) (dc (.glo ct_READERS)) (dvar 5)))
  (gexpr (dbm "list" mAppend (dvar 2) (aCons (dchoose (isFn 6 cv_name_of) (dcallL 6 cv_name_of F_name_of [] (aCons (dvar 4) aNil)) (dchoose (isFn 6 cv_number_of) (dcallL 6 cv_number_of F_number_of [] (aCons (dvar 4) aNil)) (dchoose (isFn 6 cv_path_of) (dcallL 6 cv_path_of F_path_of [] (aCons (dvar 4) aNil)) (dchoose (isFn 6 cv_when_of) (dcallL 6 cv_when_of F_when_of [] (aCons (dvar 4) aNil)) dbad)))) aNil))))))))
  (gseq (gif (tor (dtest (dbin dEqC (dvar 2) (dlst aNil))) (dtest (dbin (inX true dIn) (dc .non) (dvar 2)))) (gret (dc .non)) gnil)
  (gret (dtup (aCons (dvar 1) (aCons (dite (dtest (dbin dEqC (dvar 1) (dc (.str "call")))) (dbin dIxX (dvar 2) (dc (.int 0))) (dcallB bTupleX (aCons (dvar 2) aNil))) aNil))))))))
def F_thing_of : List D → Mu → R D := framed <| callF 7 g_thing_of
def g_read_parcel : FS := (gseq (gexpr (dcall F_look_at_text [] (aCons (dvar 0) aNil)))
  (gseq (gstar 4 19 (dbm "str" mSplit (dvar 0) (aCons (dc (.str "\n")) aNil)))
  (gseq (gasg (.tp [(.nm 5), (.nm 6)]) (dcall F_first_of [] (aCons (dvar 4) aNil)))
  (gseq (gasg (.nm 1) (ddc (itA (dc (.tup [(.str "needs"), (.str "ahead"), (.str "clashes"), (.str "file"), (.str "setting"), (.str "aside"), (.str "choice"), (.str "call"), (.str "deed")]))) [20] (.nm 20) tyes (dvar 20) (dcel aNil)))
  (gseq (gasg (.nm 2) (dc (.int 0)))
  (gseq (gfor (itE1 (aCons (dvar 19) aNil)) (.tp [(.nm 7), (.nm 8)]) (gseq (gasg (.nm 9) (dcall F_thing_of [] (aCons (dvar 8) aNil)))
  (gseq (gif (tor (dtest (dbin isD (dvar 9) (dc .non))) (dtest (dbin ltD (dtix tx_ORDER (dbin dIxX (dvar 9) (dc (.int 0)))) (dvar 2)))) (graise cC_NoText ["row"] (aCons (dvar 7) aNil)) gnil)
  (gseq (gasg (.nm 2) (dtix tx_ORDER (dbin dIxX (dvar 9) (dc (.int 0)))))
  (gexpr (dbm "list" mAppend (dbin dIxX (dvar 1) (dbin dIxX (dvar 9) (dc (.int 0)))) (aCons (dbin dIxX (dvar 9) (dc (.int 1))) aNil)))))))
  (gseq (gasgL [(.nm 10), (.nm 11), (.nm 12), (.nm 13), (.nm 14), (.nm 15), (.nm 16), (.nm 17), (.nm 18)] (dlc (itA (dc (.tup [(.str "needs"), (.str "ahead"), (.str "clashes"), (.str "file"), (.str "setting"), (.str "aside"), (.str "choice"), (.str "call"), (.str "deed")]))) [20] (.nm 20) tyes (dcallB bTupleX (aCons (dbin dIxX (dvar 1) (dvar 20)) aNil))))
  (gtry (gret (dmakeK (makeO cC_Parcel F_Parcel_init) K_b_Parcel_init_3_needs_ahead_clashes_files_settings_asides_choices_calls_deeds (aCons (dvar 5) (aCons (dvar 6) aNil)) (aCons (dvar 10) (aCons (dvar 11) (aCons (dvar 12) (aCons (dvar 13) (aCons (dvar 14) (aCons (dvar 15) (aCons (dvar 16) (aCons (dvar 17) (aCons (dvar 18) aNil))))))))))) [(Cl.mk (mL exy_NoParcel exn_NoParcel) (some 3) (fun cc fs => gbad))]))))))))
def F_read_parcel : List D → Mu → R D := framed <| callF 21 g_read_parcel
def g_shown_thing : FS := (gseq (gif (dtest (dbin dEqM (dvar 0) (dc (.str "call")))) (gret (dbin addX (dbin addX (dvar 0) (dc (.str " "))) (dvar 1))) gnil)
  (gseq (gif (dtest (dbin (inX true dIn) (dvar 0) (dtup (aCons (dc (.str "needs")) (aCons (dc (.str "ahead")) aNil))))) (gret (dbm "str" mJoin (dc (.str " ")) (aCons (dbin addX (dlst (aCons (dvar 0) aNil)) (dlc (itA (dvar 1)) [6, 7] (.tp [(.nm 6), (.nm 7)]) tyes (djoin [(dfmt (dvar 6)), (dc (.str ">")), (dfmt (dvar 7))]))) aNil))) gnil)
  (gseq (gif (dtest (dbin dEqM (dvar 0) (dc (.str "deed")))) (gseq (gasg (.tp [(.nm 2), (.nm 3), (.nm 4)]) (dvar 1))
  (gret (djoin [(dc (.str "deed ")), (dfmt (dreplC " " "-" (dvar 2))), (dc (.str " ")), (dfmt (dvar 3)), (dc (.str " ")), (dfmt (dvar 4))]))) gnil)
  (gret (dbm "str" mJoin (dc (.str " ")) (aCons (dbin addX (dlst (aCons (dvar 0) aNil)) (dlc (itA (dvar 1)) [5] (.nm 5) tyes (dcallB bStr (aCons (dvar 5) aNil)))) aNil))))))
def F_shown_thing : List D → Mu → R D := framed <| callF 8 g_shown_thing
def g_show_parcel : FS := (gseq (gasg (.nm 1) (dtup (aCons (dmeth cC_Parcel "needs" F_Parcel_needs [] (dvar 0) aNil) (aCons (dmeth cC_Parcel "ahead" F_Parcel_ahead [] (dvar 0) aNil) (aCons (dmeth cC_Parcel "clashes" F_Parcel_clashes [] (dvar 0) aNil) (aCons (dmeth cC_Parcel "files" F_Parcel_files [] (dvar 0) aNil) (aCons (dmeth cC_Parcel "settings" F_Parcel_settings [] (dvar 0) aNil) (aCons (dmeth cC_Parcel "asides" F_Parcel_asides [] (dvar 0) aNil) (aCons (dmeth cC_Parcel "choices" F_Parcel_choices [] (dvar 0) aNil) (aCons (dmeth cC_Parcel "calls" F_Parcel_calls [] (dvar 0) aNil) (aCons (dmeth cC_Parcel "deeds" F_Parcel_deeds [] (dvar 0) aNil) aNil)))))))))))
  (gseq (gasg (.nm 2) (dcel (aCons (djoin [(dc (.str "parcel ")), (dfmt (dmeth cC_Parcel "called" F_Parcel_called [] (dvar 0) aNil)), (dc (.str " ")), (dfmt (dmeth cC_Parcel "edition" F_Parcel_edition [] (dvar 0) aNil))]) aNil)))
  (gseq (gfor (itZS (aCons (dc (.tup [(.str "needs"), (.str "ahead"), (.str "clashes"), (.str "file"), (.str "setting"), (.str "aside"), (.str "choice"), (.str "call"), (.str "deed")])) (aCons (dvar 1) aNil))) (.tp [(.nm 3), (.nm 4)]) (gexpr (dbm "list" mExtend (dvar 2) (aCons (dlc (itA (dvar 4)) [5] (.nm 5) tyes (dcall F_shown_thing [] (aCons (dvar 3) (aCons (dvar 5) aNil)))) aNil))))
  (gret (dbm "str" mJoinX (dc (.str "\n")) (aCons (dvar 2) aNil))))))
def F_show_parcel : List D → Mu → R D := framed <| callF 6 g_show_parcel
def g_rest : FS := (gseq (gasg (.nm 4) (dcall F_law_parts [] (aCons (dvar 3) aNil)))
  (gseq (gpar 8 9 (aCons (dbin dIxX (dlst (aCons (dc (.str "w")) (aCons (dc (.str "who")) (aCons (dc (.str "abcdefgh")) aNil)))) (dbin dIxX (dvar 3) (dc (.int 12)))) (aCons (dbin dIxX (dlst (aCons (dc (.int 1)) (aCons (dc (.int 42)) (aCons (dc (.int 999)) aNil)))) (dbin dIxX (dvar 3) (dc (.int 13)))) aNil)))
  (gseq (gasg (.nm 5) (dcall F_law_parcel [] (aCons (dvar 8) (aCons (dvar 9) (aCons (dvar 4) aNil)))))
  (gseq (gasg (.nm 6) (dcall F_law_text [] (aCons (dvar 8) (aCons (dvar 9) (aCons (dvar 4) aNil)))))
  (gseq (gif (dtest (dbin (neP cC_Parcel F_Parcel_eq right_Parcel) (dcall F_show_parcel [] (aCons (dvar 5) aNil)) (dvar 6))) (gret (dc (.bl false))) gnil)
  (gfor (itA (dlst (aCons (dcall F_read_parcel [] (aCons (dvar 6) aNil)) (aCons (dcall F_read_parcel [] (aCons (dcall F_show_parcel [] (aCons (dvar 5) aNil)) aNil)) aNil)))) (.nm 7) (gif (tor (dtest (dbin (neP cC_Parcel F_Parcel_eq right_Parcel) (dvar 7) (dvar 5))) (tor (tnot (dtest (dcall F_law_same [] (aCons (dvar 7) (aCons (dvar 8) (aCons (dvar 9) (aCons (dvar 4) aNil))))))) (dtest (dbin (neP cC_Parcel F_Parcel_eq right_Parcel) (dcall F_show_parcel [] (aCons (dvar 7) aNil)) (dvar 6))))) (gret (dc (.bl false))) gnil)))))))
def g_law : FS := (gseq (gforT (itEX (aCons (dsl (dbin addX (dvar 0) (dlst (aCons (dc (.int 1)) aNil))) onone (osome (dc (.int 24)))) aNil)) (.tp [(.nm 1), (.nm 2)]) (gseq (gasg (.nm 3) (dcall F_law_digits [] (aCons (dvar 2) (aCons (dvar 1) (aCons (dlst (aCons (dc (.int 5)) (aCons (dc (.int 3)) (aCons (dc (.int 5)) (aCons (dc (.int 3)) (aCons (dc (.int 9)) (aCons (dc (.int 5)) (aCons (dc (.int 4)) (aCons (dc (.int 4)) (aCons (dc (.int 5)) (aCons (dc (.int 4)) (aCons (dc (.int 5)) (aCons (dc (.int 5)) (aCons (dc (.int 3)) (aCons (dc (.int 3)) aNil))))))))))))))) aNil)))))
  (gforget [0, 1, 2, 4, 5, 6, 7, 8, 9] g_rest)) [0, 1, 2, 3, 4, 5, 6, 7, 8, 9])
  (gret (dc (.bl true))))
def F_law : List D → Mu → R D := callF 10 g_law
/-! what the top has left -/
abbrev FnP (K : PySem.W.Frag) (x q : Str) (st : Stmt) (kws : List (Str × V)) (f : Addr) (fd : FuncData) : Prop := FunD K x q (defArgs st) (defBody st) (defScope st) [] kws f fd
structure Tops (K : PySem.W.Frag) (mg : Str → Option Value) where
 m_Parcel : mg "Parcel" = some (.ref (cl K cC_Parcel))
 cl_Parcel : Cls K (cl K cC_Parcel)
 f_Parcel_eq : Addr
 d_Parcel_eq : FuncData
 F_Parcel_eq : FnP K "__eq__" "Parcel.__eq__" s_Parcel_eq [] f_Parcel_eq d_Parcel_eq
 fn_Parcel_eq : PySem.W.isFn K (.ref f_Parcel_eq) = true
 f_law_digits : Addr
 d_law_digits : FuncData
 F_law_digits : FnP K "_law_digits" "_law_digits" s_law_digits [] f_law_digits d_law_digits
 m_law_digits : mg "_law_digits" = some (.ref f_law_digits)
 f_is_name : Addr
 d_is_name : FuncData
 F_is_name : FnP K "is_name" "is_name" s_is_name [] f_is_name d_is_name
 m_is_name : mg "is_name" = some (.ref f_is_name)
 mv_is_name : mg "is_name" = some (.ref (cl K cv_is_name))
 fv_is_name : f_is_name = cl K cv_is_name
 f_is_path : Addr
 d_is_path : FuncData
 F_is_path : FnP K "is_path" "is_path" s_is_path [] f_is_path d_is_path
 m_is_path : mg "is_path" = some (.ref f_is_path)
 f_is_tuple : Addr
 d_is_tuple : FuncData
 F_is_tuple : FnP K "is_tuple" "is_tuple" s_is_tuple [] f_is_tuple d_is_tuple
 m_is_tuple : mg "is_tuple" = some (.ref f_is_tuple)
 f_is_aside : Addr
 d_is_aside : FuncData
 F_is_aside : FnP K "is_aside" "is_aside" s_is_aside [] f_is_aside d_is_aside
 m_is_aside : mg "is_aside" = some (.ref f_is_aside)
 mv_is_aside : mg "is_aside" = some (.ref (cl K cv_is_aside))
 fv_is_aside : f_is_aside = cl K cv_is_aside
 f_is_whole : Addr
 d_is_whole : FuncData
 F_is_whole : FnP K "is_whole" "is_whole" s_is_whole [] f_is_whole d_is_whole
 m_is_whole : mg "is_whole" = some (.ref f_is_whole)
 f_is_from : Addr
 d_is_from : FuncData
 F_is_from : FnP K "is_from" "is_from" s_is_from [("least", .int 0)] f_is_from d_is_from
 m_is_from : mg "is_from" = some (.ref f_is_from)
 f_is_choice : Addr
 d_is_choice : FuncData
 F_is_choice : FnP K "is_choice" "is_choice" s_is_choice [] f_is_choice d_is_choice
 m_is_choice : mg "is_choice" = some (.ref f_is_choice)
 mv_is_choice : mg "is_choice" = some (.ref (cl K cv_is_choice))
 fv_is_choice : f_is_choice = cl K cv_is_choice
 f_is_edition : Addr
 d_is_edition : FuncData
 F_is_edition : FnP K "is_edition" "is_edition" s_is_edition [] f_is_edition d_is_edition
 m_is_edition : mg "is_edition" = some (.ref f_is_edition)
 f_is_clash : Addr
 d_is_clash : FuncData
 F_is_clash : FnP K "is_clash" "is_clash" s_is_clash [] f_is_clash d_is_clash
 m_is_clash : mg "is_clash" = some (.ref f_is_clash)
 mv_is_clash : mg "is_clash" = some (.ref (cl K cv_is_clash))
 fv_is_clash : f_is_clash = cl K cv_is_clash
 f_is_deed : Addr
 d_is_deed : FuncData
 F_is_deed : FnP K "is_deed" "is_deed" s_is_deed [] f_is_deed d_is_deed
 m_is_deed : mg "is_deed" = some (.ref f_is_deed)
 mv_is_deed : mg "is_deed" = some (.ref (cl K cv_is_deed))
 fv_is_deed : f_is_deed = cl K cv_is_deed
 f_is_worth : Addr
 d_is_worth : FuncData
 F_is_worth : FnP K "is_worth" "is_worth" s_is_worth [] f_is_worth d_is_worth
 m_is_worth : mg "is_worth" = some (.ref f_is_worth)
 f_is_file : Addr
 d_is_file : FuncData
 F_is_file : FnP K "is_file" "is_file" s_is_file [] f_is_file d_is_file
 m_is_file : mg "is_file" = some (.ref f_is_file)
 mv_is_file : mg "is_file" = some (.ref (cl K cv_is_file))
 fv_is_file : f_is_file = cl K cv_is_file
 f_is_option : Addr
 d_is_option : FuncData
 F_is_option : FnP K "is_option" "is_option" s_is_option [] f_is_option d_is_option
 m_is_option : mg "is_option" = some (.ref f_is_option)
 mv_is_option : mg "is_option" = some (.ref (cl K cv_is_option))
 fv_is_option : f_is_option = cl K cv_is_option
 f_are_all : Addr
 d_are_all : FuncData
 F_are_all : FnP K "are_all" "are_all" s_are_all [] f_are_all d_are_all
 m_are_all : mg "are_all" = some (.ref f_are_all)
 f_heads_of : Addr
 d_heads_of : FuncData
 F_heads_of : FnP K "heads_of" "heads_of" s_heads_of [] f_heads_of d_heads_of
 m_heads_of : mg "heads_of" = some (.ref f_heads_of)
 f_is_need : Addr
 d_is_need : FuncData
 F_is_need : FnP K "is_need" "is_need" s_is_need [] f_is_need d_is_need
 m_is_need : mg "is_need" = some (.ref f_is_need)
 mv_is_need : mg "is_need" = some (.ref (cl K cv_is_need))
 fv_is_need : f_is_need = cl K cv_is_need
 f_rise : Addr
 d_rise : FuncData
 F_rise : FnP K "rise" "rise" s_rise [] f_rise d_rise
 m_rise : mg "rise" = some (.ref f_rise)
 f_are_rising : Addr
 d_are_rising : FuncData
 F_are_rising : FnP K "are_rising" "are_rising" s_are_rising [] f_are_rising d_are_rising
 m_are_rising : mg "are_rising" = some (.ref f_are_rising)
 f_are_asides : Addr
 d_are_asides : FuncData
 F_are_asides : FnP K "are_asides" "are_asides" s_are_asides [] f_are_asides d_are_asides
 m_are_asides : mg "are_asides" = some (.ref f_are_asides)
 f_are_calls : Addr
 d_are_calls : FuncData
 F_are_calls : FnP K "are_calls" "are_calls" s_are_calls [] f_are_calls d_are_calls
 m_are_calls : mg "are_calls" = some (.ref f_are_calls)
 f_are_choices : Addr
 d_are_choices : FuncData
 F_are_choices : FnP K "are_choices" "are_choices" s_are_choices [] f_are_choices d_are_choices
 m_are_choices : mg "are_choices" = some (.ref f_are_choices)
 f_are_needs : Addr
 d_are_needs : FuncData
 F_are_needs : FnP K "are_needs" "are_needs" s_are_needs [] f_are_needs d_are_needs
 m_are_needs : mg "are_needs" = some (.ref f_are_needs)
 f_Parcel_init : Addr
 d_Parcel_init : FuncData
 F_Parcel_init : FnP K "__init__" "Parcel.__init__" s_Parcel_init [("needs", .ref (kwAt (nmC cC_Parcel, some "__init__") "needs" K)), ("ahead", .ref (kwAt (nmC cC_Parcel, some "__init__") "ahead" K)), ("clashes", .ref (kwAt (nmC cC_Parcel, some "__init__") "clashes" K)), ("files", .ref (kwAt (nmC cC_Parcel, some "__init__") "files" K)), ("settings", .ref (kwAt (nmC cC_Parcel, some "__init__") "settings" K)), ("asides", .ref (kwAt (nmC cC_Parcel, some "__init__") "asides" K)), ("choices", .ref (kwAt (nmC cC_Parcel, some "__init__") "choices" K)), ("calls", .ref (kwAt (nmC cC_Parcel, some "__init__") "calls" K)), ("deeds", .ref (kwAt (nmC cC_Parcel, some "__init__") "deeds" K))] f_Parcel_init d_Parcel_init
 fn_Parcel_init : PySem.W.isFn K (.ref f_Parcel_init) = true
 e_Parcel_init_needs : ∀ W, Rep K W (.ref (kwAt (nmC cC_Parcel, some "__init__") "needs" K)) (.tup [])
 e_Parcel_init_ahead : ∀ W, Rep K W (.ref (kwAt (nmC cC_Parcel, some "__init__") "ahead" K)) (.tup [])
 e_Parcel_init_clashes : ∀ W, Rep K W (.ref (kwAt (nmC cC_Parcel, some "__init__") "clashes" K)) (.tup [])
 e_Parcel_init_files : ∀ W, Rep K W (.ref (kwAt (nmC cC_Parcel, some "__init__") "files" K)) (.tup [])
 e_Parcel_init_settings : ∀ W, Rep K W (.ref (kwAt (nmC cC_Parcel, some "__init__") "settings" K)) (.tup [])
 e_Parcel_init_asides : ∀ W, Rep K W (.ref (kwAt (nmC cC_Parcel, some "__init__") "asides" K)) (.tup [])
 e_Parcel_init_choices : ∀ W, Rep K W (.ref (kwAt (nmC cC_Parcel, some "__init__") "choices" K)) (.tup [])
 e_Parcel_init_calls : ∀ W, Rep K W (.ref (kwAt (nmC cC_Parcel, some "__init__") "calls" K)) (.tup [])
 e_Parcel_init_deeds : ∀ W, Rep K W (.ref (kwAt (nmC cC_Parcel, some "__init__") "deeds" K)) (.tup [])
 f_law_parcel : Addr
 d_law_parcel : FuncData
 F_law_parcel : FnP K "_law_parcel" "_law_parcel" s_law_parcel [] f_law_parcel d_law_parcel
 m_law_parcel : mg "_law_parcel" = some (.ref f_law_parcel)
 f_law_needs : Addr
 d_law_needs : FuncData
 F_law_needs : FnP K "_law_needs" "_law_needs" s_law_needs [] f_law_needs d_law_needs
 m_law_needs : mg "_law_needs" = some (.ref f_law_needs)
 f_law_paths : Addr
 d_law_paths : FuncData
 F_law_paths : FnP K "_law_paths" "_law_paths" s_law_paths [] f_law_paths d_law_paths
 m_law_paths : mg "_law_paths" = some (.ref f_law_paths)
 f_law_parts : Addr
 d_law_parts : FuncData
 F_law_parts : FnP K "_law_parts" "_law_parts" s_law_parts [] f_law_parts d_law_parts
 m_law_parts : mg "_law_parts" = some (.ref f_law_parts)
 f_Parcel_ahead : Addr
 d_Parcel_ahead : FuncData
 F_Parcel_ahead : FnP K "ahead" "Parcel.ahead" s_Parcel_ahead [] f_Parcel_ahead d_Parcel_ahead
 fn_Parcel_ahead : PySem.W.isFn K (.ref f_Parcel_ahead) = true
 f_Parcel_asides : Addr
 d_Parcel_asides : FuncData
 F_Parcel_asides : FnP K "asides" "Parcel.asides" s_Parcel_asides [] f_Parcel_asides d_Parcel_asides
 fn_Parcel_asides : PySem.W.isFn K (.ref f_Parcel_asides) = true
 f_Parcel_called : Addr
 d_Parcel_called : FuncData
 F_Parcel_called : FnP K "called" "Parcel.called" s_Parcel_called [] f_Parcel_called d_Parcel_called
 fn_Parcel_called : PySem.W.isFn K (.ref f_Parcel_called) = true
 f_Parcel_calls : Addr
 d_Parcel_calls : FuncData
 F_Parcel_calls : FnP K "calls" "Parcel.calls" s_Parcel_calls [] f_Parcel_calls d_Parcel_calls
 fn_Parcel_calls : PySem.W.isFn K (.ref f_Parcel_calls) = true
 f_Parcel_choices : Addr
 d_Parcel_choices : FuncData
 F_Parcel_choices : FnP K "choices" "Parcel.choices" s_Parcel_choices [] f_Parcel_choices d_Parcel_choices
 fn_Parcel_choices : PySem.W.isFn K (.ref f_Parcel_choices) = true
 f_Parcel_clashes : Addr
 d_Parcel_clashes : FuncData
 F_Parcel_clashes : FnP K "clashes" "Parcel.clashes" s_Parcel_clashes [] f_Parcel_clashes d_Parcel_clashes
 fn_Parcel_clashes : PySem.W.isFn K (.ref f_Parcel_clashes) = true
 f_Parcel_deeds : Addr
 d_Parcel_deeds : FuncData
 F_Parcel_deeds : FnP K "deeds" "Parcel.deeds" s_Parcel_deeds [] f_Parcel_deeds d_Parcel_deeds
 fn_Parcel_deeds : PySem.W.isFn K (.ref f_Parcel_deeds) = true
 f_Parcel_edition : Addr
 d_Parcel_edition : FuncData
 F_Parcel_edition : FnP K "edition" "Parcel.edition" s_Parcel_edition [] f_Parcel_edition d_Parcel_edition
 fn_Parcel_edition : PySem.W.isFn K (.ref f_Parcel_edition) = true
 f_Parcel_files : Addr
 d_Parcel_files : FuncData
 F_Parcel_files : FnP K "files" "Parcel.files" s_Parcel_files [] f_Parcel_files d_Parcel_files
 fn_Parcel_files : PySem.W.isFn K (.ref f_Parcel_files) = true
 f_Parcel_needs : Addr
 d_Parcel_needs : FuncData
 F_Parcel_needs : FnP K "needs" "Parcel.needs" s_Parcel_needs [] f_Parcel_needs d_Parcel_needs
 fn_Parcel_needs : PySem.W.isFn K (.ref f_Parcel_needs) = true
 f_Parcel_settings : Addr
 d_Parcel_settings : FuncData
 F_Parcel_settings : FnP K "settings" "Parcel.settings" s_Parcel_settings [] f_Parcel_settings d_Parcel_settings
 fn_Parcel_settings : PySem.W.isFn K (.ref f_Parcel_settings) = true
 f_law_same : Addr
 d_law_same : FuncData
 F_law_same : FnP K "_law_same" "_law_same" s_law_same [] f_law_same d_law_same
 m_law_same : mg "_law_same" = some (.ref f_law_same)
 f_law_row : Addr
 d_law_row : FuncData
 F_law_row : FnP K "_law_row" "_law_row" s_law_row [] f_law_row d_law_row
 m_law_row : mg "_law_row" = some (.ref f_law_row)
 f_law_text : Addr
 d_law_text : FuncData
 F_law_text : FnP K "_law_text" "_law_text" s_law_text [] f_law_text d_law_text
 m_law_text : mg "_law_text" = some (.ref f_law_text)
 f_number_of : Addr
 d_number_of : FuncData
 F_number_of : FnP K "number_of" "number_of" s_number_of [] f_number_of d_number_of
 m_number_of : mg "number_of" = some (.ref f_number_of)
 mv_number_of : mg "number_of" = some (.ref (cl K cv_number_of))
 fv_number_of : f_number_of = cl K cv_number_of
 f_first_of : Addr
 d_first_of : FuncData
 F_first_of : FnP K "first_of" "first_of" s_first_of [] f_first_of d_first_of
 m_first_of : mg "first_of" = some (.ref f_first_of)
 f_look_at_text : Addr
 d_look_at_text : FuncData
 F_look_at_text : FnP K "look_at_text" "look_at_text" s_look_at_text [] f_look_at_text d_look_at_text
 m_look_at_text : mg "look_at_text" = some (.ref f_look_at_text)
 f_name_of : Addr
 d_name_of : FuncData
 F_name_of : FnP K "name_of" "name_of" s_name_of [] f_name_of d_name_of
 m_name_of : mg "name_of" = some (.ref f_name_of)
 mv_name_of : mg "name_of" = some (.ref (cl K cv_name_of))
 fv_name_of : f_name_of = cl K cv_name_of
 f_option_of : Addr
 d_option_of : FuncData
 F_option_of : FnP K "option_of" "option_of" s_option_of [] f_option_of d_option_of
 m_option_of : mg "option_of" = some (.ref f_option_of)
 f_path_of : Addr
 d_path_of : FuncData
 F_path_of : FnP K "path_of" "path_of" s_path_of [] f_path_of d_path_of
 m_path_of : mg "path_of" = some (.ref f_path_of)
 mv_path_of : mg "path_of" = some (.ref (cl K cv_path_of))
 fv_path_of : f_path_of = cl K cv_path_of
 f_when_of : Addr
 d_when_of : FuncData
 F_when_of : FnP K "when_of" "when_of" s_when_of [] f_when_of d_when_of
 m_when_of : mg "when_of" = some (.ref f_when_of)
 mv_when_of : mg "when_of" = some (.ref (cl K cv_when_of))
 fv_when_of : f_when_of = cl K cv_when_of
 f_thing_of : Addr
 d_thing_of : FuncData
 F_thing_of : FnP K "thing_of" "thing_of" s_thing_of [] f_thing_of d_thing_of
 m_thing_of : mg "thing_of" = some (.ref f_thing_of)
 f_read_parcel : Addr
 d_read_parcel : FuncData
 F_read_parcel : FnP K "read_parcel" "read_parcel" s_read_parcel [] f_read_parcel d_read_parcel
 m_read_parcel : mg "read_parcel" = some (.ref f_read_parcel)
 f_shown_thing : Addr
 d_shown_thing : FuncData
 F_shown_thing : FnP K "shown_thing" "shown_thing" s_shown_thing [] f_shown_thing d_shown_thing
 m_shown_thing : mg "shown_thing" = some (.ref f_shown_thing)
 f_show_parcel : Addr
 d_show_parcel : FuncData
 F_show_parcel : FnP K "show_parcel" "show_parcel" s_show_parcel [] f_show_parcel d_show_parcel
 m_show_parcel : mg "show_parcel" = some (.ref f_show_parcel)
 f_law : Addr
 d_law : FuncData
 F_law : FnP K "law" "law" s_law [] f_law d_law
 m_law : mg "law" = some (.ref f_law)
 f_NoText_init : Addr
 d_NoText_init : FuncData
 F_NoText_init : FnP K "__init__" "NoText.__init__" s_NoText_init [] f_NoText_init d_NoText_init
 m_NoParcel : mg "NoParcel" = some (.ref (cl K cC_NoParcel))
 m_NoText : mg "NoText" = some (.ref (cl K cC_NoText))
 m_WholeError : mg "WholeError" = some (.ref (cl K cC_WholeError))
 oex_NoText : OexG K (cl K cC_NoText) (Bk.init .ve)
 ini_NoText : PySem.W.findIn K (.ref (cl K cC_NoText)) "__init__" = some (some (.ref f_NoText_init)) ∧ PySem.W.typeIn K (.ref f_NoText_init) = some (.type "function")
 exc_NoText : ExcC K (cl K cC_NoText) ∧ XfC K (cl K cC_NoText)
 xf_NoText_row : PySem.W.findIn K (.ref (cl K cC_NoText)) "row" = some none
 gm_WholeError : gmB K cC_WholeError (Bk.init .ve) = true
 exm_NoParcel : ∀ c b, mL exy_NoParcel exn_NoParcel c = some b → PySem.W.exmOne K (.ref (cl K c)) (.ref (cl K cC_NoParcel)) = some b
 me_Parcel_ahead : Meth K (cl K cC_Parcel) "ahead" f_Parcel_ahead
 me_Parcel_asides : Meth K (cl K cC_Parcel) "asides" f_Parcel_asides
 me_Parcel_called : Meth K (cl K cC_Parcel) "called" f_Parcel_called
 me_Parcel_calls : Meth K (cl K cC_Parcel) "calls" f_Parcel_calls
 me_Parcel_choices : Meth K (cl K cC_Parcel) "choices" f_Parcel_choices
 me_Parcel_clashes : Meth K (cl K cC_Parcel) "clashes" f_Parcel_clashes
 me_Parcel_deeds : Meth K (cl K cC_Parcel) "deeds" f_Parcel_deeds
 me_Parcel_edition : Meth K (cl K cC_Parcel) "edition" f_Parcel_edition
 me_Parcel_files : Meth K (cl K cC_Parcel) "files" f_Parcel_files
 me_Parcel_needs : Meth K (cl K cC_Parcel) "needs" f_Parcel_needs
 me_Parcel_settings : Meth K (cl K cC_Parcel) "settings" f_Parcel_settings
 mk_Parcel : Mk K (cl K cC_Parcel) f_Parcel_init
 kt_Parcel : ∀ t b, ktL yes_Parcel no_Parcel t = some b → PySem.W.kitOne K (t.val K) ((Ty.own cC_Parcel).val K) = some b
 isc : ∀ C ∈ isAll, IsC K (cl K C)
 at_own_edition : ∀ C ∈ [cC_Parcel], Cls K (cl K C) ∧ NoAttr K (cl K C) "own_edition"
 at_own_name : ∀ C ∈ [cC_Parcel], Cls K (cl K C) ∧ NoAttr K (cl K C) "own_name"
 at_own_parts : ∀ C ∈ [cC_Parcel], Cls K (cl K C) ∧ NoAttr K (cl K C) "own_parts"
 eq_Parcel : PySem.W.findIn K (.ref (cl K cC_Parcel)) "__eq__" = some (some (.ref f_Parcel_eq))
 ne_Parcel : PySem.W.findIn K (.ref (cl K cC_Parcel)) "__ne__" = some (some (.builtin "object.__ne__"))
 mo_Parcel : PySem.W.mroIn K (cl K cC_Parcel) (.type "object") = some true
 nf_Parcel : ∀ t ∈ right_Parcel, PySem.W.notFirst K (cl K cC_Parcel) (t.val K) = true
 m_FORMS : mg "FORMS" = some (.ref (cl K ct_FORMS))
 tb_FORMS : TabK K ct_FORMS tab_FORMS
 m_READERS : mg "READERS" = some (.ref (cl K ct_READERS))
 tb_READERS : TabK K ct_READERS tab_READERS
 tx_ORDER : TupK K mg "ORDER" tx_ORDER
 tk_BLANK_DASH : ∃ t u : Tok, mg "BLANK" = some (.str " " t) ∧ mg "DASH" = some (.str "-" u) ∧ t ≠ 0 ∧ u ≠ 0 ∧ t ≠ u
 tk_DASH_BLANK : ∃ t u : Tok, mg "DASH" = some (.str "-" t) ∧ mg "BLANK" = some (.str " " u) ∧ t ≠ 0 ∧ u ≠ 0 ∧ t ≠ u
 z_abs : mg "abs" = none
 z_all : mg "all" = none
 z_any : mg "any" = none
 z_bool : mg "bool" = none
 z_enumerate : mg "enumerate" = none
 z_int : mg "int" = none
 z_isinstance : mg "isinstance" = none
 z_len : mg "len" = none
 z_range : mg "range" = none
 z_repr : mg "repr" = none
 z_set : mg "set" = none
 z_sorted : mg "sorted" = none
 z_str : mg "str" = none
 z_tuple : mg "tuple" = none
 z_zip : mg "zip" = none
 c_LETTERS : { t : Tok // mg "LETTERS" = some (.str "abcdefghijklmnopqrstuvwxyz" t) }
 c_MOST_BY : { t : Tok // mg "MOST_BY" = some (.int 99 t) }
 c_MOST_EDITION : { t : Tok // mg "MOST_EDITION" = some (.int 999 t) }
 c_MOST_FIGURES : { t : Tok // mg "MOST_FIGURES" = some (.int 10 t) }
 c_MOST_NAME : { t : Tok // mg "MOST_NAME" = some (.int 8 t) }
 c_MOST_NAMES : { t : Tok // mg "MOST_NAMES" = some (.int 3 t) }
 c_MOST_OPTIONS : { t : Tok // mg "MOST_OPTIONS" = some (.int 3 t) }
 c_MOST_RANK : { t : Tok // mg "MOST_RANK" = some (.int 99 t) }
 c_MOST_WORTH : { t : Tok // mg "MOST_WORTH" = some (.int 1000000000 t) }
 c_ORDER : { q : Value × V // mg "ORDER" = some q.1 ∧ RelV q.2 q.1 ∧ ∀ W, Rep K W q.2 (.tup [(.str "needs"), (.str "ahead"), (.str "clashes"), (.str "file"), (.str "setting"), (.str "aside"), (.str "choice"), (.str "call"), (.str "deed")]) }
 c_WHENS : { q : Value × V // mg "WHENS" = some q.1 ∧ RelV q.2 q.1 ∧ ∀ W, Rep K W q.2 (.tup [(.str "ahead put"), (.str "behind set"), (.str "ahead loose")]) }
section
variable {P : Program} {w : World} {K : PySem.W.Frag} {mg : Str → Option Value} {base : Heap}
theorem Tops.b_law_parts_1 (T : Tops K mg) : Dfl K T.d_law_parts ["_law_d"] 1 [] := dfl0 (T.F_law_parts.bindsN fun _ _ _ _ _ _ us hl => match us, hl with | [_], _ => rfl)
theorem Tops.b_law_parcel_3 (T : Tops K mg) : Dfl K T.d_law_parcel ["_law_name", "_law_year", "_law_own"] 3 [] := dfl0 (T.F_law_parcel.bindsN fun _ _ _ _ _ _ us hl => match us, hl with | [_, _, _], _ => rfl)
theorem Tops.b_law_text_3 (T : Tops K mg) : Dfl K T.d_law_text ["_law_name", "_law_year", "_law_parts_here"] 3 [] := dfl0 (T.F_law_text.bindsN fun _ _ _ _ _ _ us hl => match us, hl with | [_, _, _], _ => rfl)
theorem Tops.b_Parcel_eq_2 (T : Tops K mg) : Dfl K T.d_Parcel_eq ["self", "other"] 2 [] := dfl0 (T.F_Parcel_eq.bindsN fun _ _ _ _ _ _ us hl => match us, hl with | [_, _], _ => rfl)
theorem Tops.b_show_parcel_1 (T : Tops K mg) : Dfl K T.d_show_parcel ["parcel"] 1 [] := dfl0 (T.F_show_parcel.bindsN fun _ _ _ _ _ _ us hl => match us, hl with | [_], _ => rfl)
theorem Tops.b_read_parcel_1 (T : Tops K mg) : Dfl K T.d_read_parcel ["text"] 1 [] := dfl0 (T.F_read_parcel.bindsN fun _ _ _ _ _ _ us hl => match us, hl with | [_], _ => rfl)
theorem Tops.b_law_same_4 (T : Tops K mg) : Dfl K T.d_law_same ["_law_found", "_law_name", "_law_year", "_law_own"] 4 [] := dfl0 (T.F_law_same.bindsN fun _ _ _ _ _ _ us hl => match us, hl with | [_, _, _, _], _ => rfl)
theorem Tops.b_law_digits_3 (T : Tops K mg) : Dfl K T.d_law_digits ["_law_cell", "_law_turn", "_law_sizes"] 3 [] := dfl0 (T.F_law_digits.bindsN fun _ _ _ _ _ _ us hl => match us, hl with | [_, _, _], _ => rfl)
theorem Tops.b_Parcel_init_3_needs_ahead_clashes_files_settings_asides_choices_calls_deeds (T : Tops K mg) : KDfl K T.d_Parcel_init ["self", "name", "edition", "needs", "ahead", "clashes", "files", "settings", "asides", "choices", "calls", "deeds"] 3 ["needs", "ahead", "clashes", "files", "settings", "asides", "choices", "calls", "deeds"] K_b_Parcel_init_3_needs_ahead_clashes_files_settings_asides_choices_calls_deeds := by
 refine kdfl T.F_Parcel_init 3 ["needs", "ahead", "clashes", "files", "settings", "asides", "choices", "calls", "deeds"] [] [] (fun {α} => kb_b_Parcel_init_3_needs_ahead_clashes_files_settings_asides_choices_calls_deeds) (by simp) (by simp) (fun r1 r2 r3 => (vals_pk (vals_pk (vals_pk (vals_pk (vals_pk (vals_pk (vals_pk (vals_pk (vals_pk (vals_pk (vals_pk (vals_pk .nil 8 r3) 7 r3) 6 r3) 5 r3) 4 r3) 3 r3) 2 r3) 1 r3) 0 r3) 2 r1) 1 r1) 0 r1)) (fun W vs ds zs es h1 h2 r1 r2 => ?_) (fun us mv ws h1 h2 h3 => ?_) (fun D doc pm an cdv ct us mv ws h1 h2 h3 => ?_)
 ·have rm : Reps K W ([] : List V) ([] : List D) := .nil
  exact (reps_pk (reps_pk (reps_pk (reps_pk (reps_pk (reps_pk (reps_pk (reps_pk (reps_pk (reps_pk (reps_pk (reps_pk .nil 8 r2) 7 r2) 6 r2) 5 r2) 4 r2) 3 r2) 2 r2) 1 r2) 0 r2) 2 r1) 1 r1) 0 r1)
 ·match us, mv, ws, h1, h2, h3 with | [_, _, _], [], [_, _, _, _, _, _, _, _, _], _, _, _ => rfl
 ·match us, mv, ws, h1, h2, h3 with | [_, _, _], [], [_, _, _, _, _, _, _, _, _], _, _, _ => exact rfl
theorem Tops.b_is_name_1 (T : Tops K mg) : Dfl K T.d_is_name ["thing"] 1 [] := dfl0 (T.F_is_name.bindsN fun _ _ _ _ _ _ us hl => match us, hl with | [_], _ => rfl)
theorem Tops.b_is_edition_1 (T : Tops K mg) : Dfl K T.d_is_edition ["thing"] 1 [] := dfl0 (T.F_is_edition.bindsN fun _ _ _ _ _ _ us hl => match us, hl with | [_], _ => rfl)
theorem Tops.b_are_needs_2 (T : Tops K mg) : Dfl K T.d_are_needs ["name", "thing"] 2 [] := dfl0 (T.F_are_needs.bindsN fun _ _ _ _ _ _ us hl => match us, hl with | [_, _], _ => rfl)
theorem Tops.b_heads_of_1 (T : Tops K mg) : Dfl K T.d_heads_of ["some"] 1 [] := dfl0 (T.F_heads_of.bindsN fun _ _ _ _ _ _ us hl => match us, hl with | [_], _ => rfl)
theorem Tops.b_are_all_3 (T : Tops K mg) : Dfl K T.d_are_all ["thing", "most", "fits"] 3 [] := dfl0 (T.F_are_all.bindsN fun _ _ _ _ _ _ us hl => match us, hl with | [_, _, _], _ => rfl)
theorem Tops.b_are_rising_3 (T : Tops K mg) : Dfl K T.d_are_rising ["thing", "most", "fits"] 3 [] := dfl0 (T.F_are_rising.bindsN fun _ _ _ _ _ _ us hl => match us, hl with | [_, _, _], _ => rfl)
theorem Tops.b_are_asides_3 (T : Tops K mg) : Dfl K T.d_are_asides ["thing", "files", "settings"] 3 [] := dfl0 (T.F_are_asides.bindsN fun _ _ _ _ _ _ us hl => match us, hl with | [_, _, _], _ => rfl)
theorem Tops.b_are_choices_3 (T : Tops K mg) : Dfl K T.d_are_choices ["thing", "files", "settings"] 3 [] := dfl0 (T.F_are_choices.bindsN fun _ _ _ _ _ _ us hl => match us, hl with | [_, _, _], _ => rfl)
theorem Tops.b_are_calls_1 (T : Tops K mg) : Dfl K T.d_are_calls ["thing"] 1 [] := dfl0 (T.F_are_calls.bindsN fun _ _ _ _ _ _ us hl => match us, hl with | [_], _ => rfl)
theorem Tops.b_is_deed_1 (T : Tops K mg) : Dfl K T.d_is_deed ["thing"] 1 [] := dfl0 (T.F_is_deed.bindsN fun _ _ _ _ _ _ us hl => match us, hl with | [_], _ => rfl)
theorem Tops.b_is_choice_1 (T : Tops K mg) : Dfl K T.d_is_choice ["thing"] 1 [] := dfl0 (T.F_is_choice.bindsN fun _ _ _ _ _ _ us hl => match us, hl with | [_], _ => rfl)
theorem Tops.b_is_aside_1 (T : Tops K mg) : Dfl K T.d_is_aside ["thing"] 1 [] := dfl0 (T.F_is_aside.bindsN fun _ _ _ _ _ _ us hl => match us, hl with | [_], _ => rfl)
theorem Tops.b_is_file_1 (T : Tops K mg) : Dfl K T.d_is_file ["thing"] 1 [] := dfl0 (T.F_is_file.bindsN fun _ _ _ _ _ _ us hl => match us, hl with | [_], _ => rfl)
theorem Tops.b_is_clash_1 (T : Tops K mg) : Dfl K T.d_is_clash ["thing"] 1 [] := dfl0 (T.F_is_clash.bindsN fun _ _ _ _ _ _ us hl => match us, hl with | [_], _ => rfl)
theorem Tops.b_is_need_1 (T : Tops K mg) : Dfl K T.d_is_need ["thing"] 1 [] := dfl0 (T.F_is_need.bindsN fun _ _ _ _ _ _ us hl => match us, hl with | [_], _ => rfl)
theorem Tops.b_is_path_1 (T : Tops K mg) : Dfl K T.d_is_path ["thing"] 1 [] := dfl0 (T.F_is_path.bindsN fun _ _ _ _ _ _ us hl => match us, hl with | [_], _ => rfl)
theorem Tops.b_is_tuple_2 (T : Tops K mg) : Dfl K T.d_is_tuple ["thing", "many"] 2 [] := dfl0 (T.F_is_tuple.bindsN fun _ _ _ _ _ _ us hl => match us, hl with | [_, _], _ => rfl)
theorem Tops.b_is_from_1_most (T : Tops K mg) : KDfl K T.d_is_from ["thing", "least", "most"] 1 ["most"] K_b_is_from_1_most := by
 refine kdfl T.F_is_from 1 ["most"] [("least", .int 0)] [.int 0] (fun {α} => kb_b_is_from_1_most) (by simp) (by simp) (fun r1 r2 r3 => (vals_pk (vals_pk (vals_pk .nil 0 r3) 0 r2) 0 r1)) (fun W vs ds zs es h1 h2 r1 r2 => ?_) (fun us mv ws h1 h2 h3 => ?_) (fun D doc pm an cdv ct us mv ws h1 h2 h3 => ?_)
 ·have rm : Reps K W ([.int 0] : List V) ([.int 0] : List D) := (.cons (.int _) .nil)
  exact (reps_pk (reps_pk (reps_pk .nil 0 r2) 0 rm) 0 r1)
 ·match us, mv, ws, h1, h2, h3 with | [_], [_], [_], _, _, _ => rfl
 ·match us, mv, ws, h1, h2, h3 with | [_], [_], [_], _, _, _ => exact ⟨_, _, _, _, _, _, rfl, rfl, rfl⟩
theorem Tops.b_is_whole_1 (T : Tops K mg) : Dfl K T.d_is_whole ["thing"] 1 [] := dfl0 (T.F_is_whole.bindsN fun _ _ _ _ _ _ us hl => match us, hl with | [_], _ => rfl)
theorem Tops.b_is_from_1_least_most (T : Tops K mg) : KDfl K T.d_is_from ["thing", "least", "most"] 1 ["least", "most"] K_b_is_from_1_least_most := by
 refine kdfl T.F_is_from 1 ["least", "most"] [] [] (fun {α} => kb_b_is_from_1_least_most) (by simp) (by simp) (fun r1 r2 r3 => (vals_pk (vals_pk (vals_pk .nil 1 r3) 0 r3) 0 r1)) (fun W vs ds zs es h1 h2 r1 r2 => ?_) (fun us mv ws h1 h2 h3 => ?_) (fun D doc pm an cdv ct us mv ws h1 h2 h3 => ?_)
 ·have rm : Reps K W ([] : List V) ([] : List D) := .nil
  exact (reps_pk (reps_pk (reps_pk .nil 1 r2) 0 r2) 0 r1)
 ·match us, mv, ws, h1, h2, h3 with | [_], [], [_, _], _, _, _ => rfl
 ·match us, mv, ws, h1, h2, h3 with | [_], [], [_, _], _, _, _ => exact rfl
theorem Tops.b_is_worth_1 (T : Tops K mg) : Dfl K T.d_is_worth ["thing"] 1 [] := dfl0 (T.F_is_worth.bindsN fun _ _ _ _ _ _ us hl => match us, hl with | [_], _ => rfl)
theorem Tops.b_is_option_1 (T : Tops K mg) : Dfl K T.d_is_option ["thing"] 1 [] := dfl0 (T.F_is_option.bindsN fun _ _ _ _ _ _ us hl => match us, hl with | [_], _ => rfl)
theorem Tops.b_rise_1 (T : Tops K mg) : Dfl K T.d_rise ["some"] 1 [] := dfl0 (T.F_rise.bindsN fun _ _ _ _ _ _ us hl => match us, hl with | [_], _ => rfl)
theorem Tops.b_law_paths_2 (T : Tops K mg) : Dfl K T.d_law_paths ["_law_some", "_law_many"] 2 [] := dfl0 (T.F_law_paths.bindsN fun _ _ _ _ _ _ us hl => match us, hl with | [_, _], _ => rfl)
theorem Tops.b_law_needs_2 (T : Tops K mg) : Dfl K T.d_law_needs ["_law_d", "_law_k"] 2 [] := dfl0 (T.F_law_needs.bindsN fun _ _ _ _ _ _ us hl => match us, hl with | [_, _], _ => rfl)
theorem Tops.b_Parcel_edition_1 (T : Tops K mg) : Dfl K T.d_Parcel_edition ["self"] 1 [] := dfl0 (T.F_Parcel_edition.bindsN fun _ _ _ _ _ _ us hl => match us, hl with | [_], _ => rfl)
theorem Tops.b_Parcel_called_1 (T : Tops K mg) : Dfl K T.d_Parcel_called ["self"] 1 [] := dfl0 (T.F_Parcel_called.bindsN fun _ _ _ _ _ _ us hl => match us, hl with | [_], _ => rfl)
theorem Tops.b_Parcel_settings_1 (T : Tops K mg) : Dfl K T.d_Parcel_settings ["self"] 1 [] := dfl0 (T.F_Parcel_settings.bindsN fun _ _ _ _ _ _ us hl => match us, hl with | [_], _ => rfl)
theorem Tops.b_Parcel_files_1 (T : Tops K mg) : Dfl K T.d_Parcel_files ["self"] 1 [] := dfl0 (T.F_Parcel_files.bindsN fun _ _ _ _ _ _ us hl => match us, hl with | [_], _ => rfl)
theorem Tops.b_Parcel_clashes_1 (T : Tops K mg) : Dfl K T.d_Parcel_clashes ["self"] 1 [] := dfl0 (T.F_Parcel_clashes.bindsN fun _ _ _ _ _ _ us hl => match us, hl with | [_], _ => rfl)
theorem Tops.b_Parcel_ahead_1 (T : Tops K mg) : Dfl K T.d_Parcel_ahead ["self"] 1 [] := dfl0 (T.F_Parcel_ahead.bindsN fun _ _ _ _ _ _ us hl => match us, hl with | [_], _ => rfl)
theorem Tops.b_Parcel_needs_1 (T : Tops K mg) : Dfl K T.d_Parcel_needs ["self"] 1 [] := dfl0 (T.F_Parcel_needs.bindsN fun _ _ _ _ _ _ us hl => match us, hl with | [_], _ => rfl)
theorem Tops.b_Parcel_deeds_1 (T : Tops K mg) : Dfl K T.d_Parcel_deeds ["self"] 1 [] := dfl0 (T.F_Parcel_deeds.bindsN fun _ _ _ _ _ _ us hl => match us, hl with | [_], _ => rfl)
theorem Tops.b_Parcel_calls_1 (T : Tops K mg) : Dfl K T.d_Parcel_calls ["self"] 1 [] := dfl0 (T.F_Parcel_calls.bindsN fun _ _ _ _ _ _ us hl => match us, hl with | [_], _ => rfl)
theorem Tops.b_Parcel_choices_1 (T : Tops K mg) : Dfl K T.d_Parcel_choices ["self"] 1 [] := dfl0 (T.F_Parcel_choices.bindsN fun _ _ _ _ _ _ us hl => match us, hl with | [_], _ => rfl)
theorem Tops.b_Parcel_asides_1 (T : Tops K mg) : Dfl K T.d_Parcel_asides ["self"] 1 [] := dfl0 (T.F_Parcel_asides.bindsN fun _ _ _ _ _ _ us hl => match us, hl with | [_], _ => rfl)
theorem Tops.b_law_row_2 (T : Tops K mg) : Dfl K T.d_law_row ["_law_word", "_law_thing"] 2 [] := dfl0 (T.F_law_row.bindsN fun _ _ _ _ _ _ us hl => match us, hl with | [_, _], _ => rfl)
theorem Tops.b_look_at_text_1 (T : Tops K mg) : Dfl K T.d_look_at_text ["text"] 1 [] := dfl0 (T.F_look_at_text.bindsN fun _ _ _ _ _ _ us hl => match us, hl with | [_], _ => rfl)
theorem Tops.b_first_of_1 (T : Tops K mg) : Dfl K T.d_first_of ["row"] 1 [] := dfl0 (T.F_first_of.bindsN fun _ _ _ _ _ _ us hl => match us, hl with | [_], _ => rfl)
theorem Tops.b_thing_of_1 (T : Tops K mg) : Dfl K T.d_thing_of ["row"] 1 [] := dfl0 (T.F_thing_of.bindsN fun _ _ _ _ _ _ us hl => match us, hl with | [_], _ => rfl)
theorem Tops.b_number_of_1 (T : Tops K mg) : Dfl K T.d_number_of ["word"] 1 [] := dfl0 (T.F_number_of.bindsN fun _ _ _ _ _ _ us hl => match us, hl with | [_], _ => rfl)
theorem Tops.b_option_of_1 (T : Tops K mg) : Dfl K T.d_option_of ["word"] 1 [] := dfl0 (T.F_option_of.bindsN fun _ _ _ _ _ _ us hl => match us, hl with | [_], _ => rfl)
theorem Tops.b_when_of_1 (T : Tops K mg) : Dfl K T.d_when_of ["word"] 1 [] := dfl0 (T.F_when_of.bindsN fun _ _ _ _ _ _ us hl => match us, hl with | [_], _ => rfl)
theorem Tops.b_path_of_1 (T : Tops K mg) : Dfl K T.d_path_of ["word"] 1 [] := dfl0 (T.F_path_of.bindsN fun _ _ _ _ _ _ us hl => match us, hl with | [_], _ => rfl)
theorem Tops.b_name_of_1 (T : Tops K mg) : Dfl K T.d_name_of ["word"] 1 [] := dfl0 (T.F_name_of.bindsN fun _ _ _ _ _ _ us hl => match us, hl with | [_], _ => rfl)
theorem Tops.b_shown_thing_2 (T : Tops K mg) : Dfl K T.d_shown_thing ["word", "thing"] 2 [] := dfl0 (T.F_shown_thing.bindsN fun _ _ _ _ _ _ us hl => match us, hl with | [_, _], _ => rfl)
theorem Tops.bi_NoText (T : Tops K mg) : Binds K T.d_NoText_init ["self", "row"] [] := T.F_NoText_init.bindsN fun _ _ _ _ _ _ us hl => match us, hl with | [_, _], _ => rfl
set_option maxHeartbeats 8000000 in
theorem ei_NoText (T : Tops K mg) : FnOk P w K mg base (L2.CX P w) 1 T.f_NoText_init T.d_NoText_init ["self", "row"] (sp1 (cl K cC_NoText) "row") := by
 refine FunD.ok (k := 0) T.F_NoText_init sc_NoText_init (fun vs H Q E h => by obtain ⟨a, y, rfl, _⟩ := h; rfl) fun cdv A outer s H vs Q E hr h => ⟨tI1 K (Bk.init .ve) "row", ?_, ?_⟩
 ·exact pss_init1 (pl := _) rfl ⟨rfl, by decide, .inl T.m_WholeError⟩ (gmB_ok (k := .ve) T.gm_WholeError) rfl (.inl rfl) rfl (.inl rfl) (by decide) (by decide)
 ·obtain ⟨a, y, rfl, ha, q⟩ := h
  exact ⟨a, cl K cC_NoText, y, rfl, rfl, T.oex_NoText, T.xf_NoText_row, ha, q⟩
set_option maxHeartbeats 8000000 in
theorem ok_Parcel_eq (tin : TabIn K base mg) (T : Tops K mg) : FnG P w K mg base 1 T.f_Parcel_eq T.d_Parcel_eq ["self", "other"] F_Parcel_eq := by
 refine FnG.framed <| FunD.g T.F_Parcel_eq sc_Parcel_eq fun cdv A outer s H E c => ?_
 exact (by refine ds_cons (ds_if (dt_not (dtest_val (de_callB (cx_isiO (.own cC_Parcel) T.isc T.kt_Parcel) T.z_isinstance (da_cons (dv 1) (da_cons (de_glob (v := .ref (cl K cC_Parcel)) T.m_Parcel rfl fun _ => .glo _) da_nil))))) (ds_one (ds_ret dbool)) ds_nil) ?_; refine ds_cons (ds_if (dt_w (dw_or (dt_cmp (opx_neX c.room.units) (de_at T.at_own_name (dv 0)) (de_at T.at_own_name (dv 1))) (dw_or1 (dt_cmp (opx_neX c.room.units) (de_at T.at_own_edition (dv 0)) (de_at T.at_own_edition (dv 1)))))) (ds_one (ds_ret dbool)) ds_nil) ?_; exact (ds_one (ds_ret (de_cmp (opx_eq c.room.units) (de_at T.at_own_parts (dv 0)) (de_at T.at_own_parts (dv 1))))))
set_option maxHeartbeats 8000000 in
theorem ok_law_digits (tin : TabIn K base mg) (T : Tops K mg) : FnG P w K mg base 1 T.f_law_digits T.d_law_digits ["_law_cell", "_law_turn", "_law_sizes"] F_law_digits := by
 refine FnG.framed <| FunD.g T.F_law_digits sc_law_digits fun cdv A outer s H E c => ?_
 exact (by refine ds_cons (ds_set 3 sc_law_digits.nd (de_callB cx_abs T.z_abs (da_cons (dv 0) da_nil))) ?_; refine ds_cons (ds_set 4 sc_law_digits.nd (de_cmp opx_ge (dv 3) (de_bin opx_pow dint dint))) ?_; refine ds_cons (ds_set 5 sc_law_digits.nd (de_bin opx_addX (de_bin opx_mod (dv 3) dint) (de_bin opx_mulX dint (dv 1)))) ?_; refine ds_cons (ds_set 6 sc_law_digits.nd (de_cel da_nil)) ?_; refine ds_cons (ds_for (passes_of rfl) rfl (di_enumX T.z_enumerate (da_cons (dv 2) da_nil)) (dg_tup rfl (dgs_cons (dg_name sc_law_digits.nd) (dgs_cons (dg_name sc_law_digits.nd) dgs_nil))) (ds_one (ds_if (dt_w (dw_and (dtest_val (dv 4)) (dw_and1 (dt_cmp opx_gt (dv 3) dint)))) (by refine ds_cons (ds_expr (de_bm PySem.F.plainAttrs_list PySem.F.slot_list_append PySem.F.type_list_append mx_append (dv 6) (da_cons (de_bin opx_mod (dv 3) (dv 8)) da_nil))) ?_; exact (ds_one (ds_set 3 sc_law_digits.nd (de_bin opx_fdiv (dv 3) (dv 8))))) (by refine ds_cons (ds_set 5 sc_law_digits.nd (de_bin opx_mod (de_bin opx_pow (de_bin opx_addX (dv 5) (de_bin opx_mulX dint (de_bin opx_addX (dv 7) dint))) dint) dint)) ?_; exact (ds_one (ds_expr (de_bm PySem.F.plainAttrs_list PySem.F.slot_list_append PySem.F.type_list_append mx_append (dv 6) (da_cons (de_bin opx_mod (de_bin opx_fdiv (dv 5) dint) (dv 8)) da_nil)))))))) ?_; exact (ds_one (ds_ret (de_frz (dv 6)))))
set_option maxHeartbeats 8000000 in
theorem ok_is_name (tin : TabIn K base mg) (T : Tops K mg) : FnG P w K mg base 1 T.f_is_name T.d_is_name ["thing"] F_is_name := by
 refine FnG.framed <| FunD.g T.F_is_name sc_is_name fun cdv A outer s H E c => ?_
 exact (ds_one (ds_ret (de_and (de_callB cx_isi T.z_isinstance (da_cons (dv 0) (da_cons (de_ty T.z_str) da_nil))) (de_and (de_chain opx_le opx_le dint (de_callB cx_len T.z_len (da_cons (dv 0) da_nil)) (de_glob T.c_MOST_NAME.2 (v := .int 8) ⟨_, rfl⟩ fun _ => .int _)) (de_one (de_callB (cx_all rfl) T.z_all (da_cons (de_lc [("sign", 1)] rfl sc_is_name.nd (di_any (dv 0)) (blkOk_by (N := ["thing", "sign"]) (sc := defScope s_is_name) (by decide +kernel)) (fun s1 H1 C1 cl1 fp1 => (dg_name sc_is_name.nd)) (fun s1 H1 C1 cl1 fp1 => dts_nil) (fun s1 H1 C1 cl1 fp1 => (de_cmp (opx_in (c.blk s1 H1 _ _ fp1).room.units) (dv 1) (de_glob T.c_LETTERS.2 (v := .str "abcdefghijklmnopqrstuvwxyz") ⟨_, rfl⟩ fun _ => .str _ (by decide +kernel))))) da_nil)))))))
set_option maxHeartbeats 8000000 in
theorem ok_is_path (tin : TabIn K base mg) (T : Tops K mg) : FnG P w K mg base 2 T.f_is_path T.d_is_path ["thing"] F_is_path := by
 have G_is_name := ok_is_name (P := P) (w := w) (base := base) tin T
 refine FnG.framed <| FunD.g T.F_is_path sc_is_path fun cdv A outer s H E c => ?_
 exact (by refine ds_cons (ds_if (dt_not (dtest_val (de_callB cx_isi T.z_isinstance (da_cons (dv 0) (da_cons (de_ty T.z_str) da_nil))))) (ds_one (ds_ret dbool)) ds_nil) ?_; refine ds_cons (ds_set 1 sc_is_path.nd (de_bm PySem.F.plainAttrs_str PySem.F.slot_str_split PySem.F.type_str_split mx_split (dv 0) (da_cons dstr da_nil))) ?_; exact (ds_one (ds_ret (de_and (de_cmp opx_le (de_callB cx_len T.z_len (da_cons (dv 1) da_nil)) (de_glob T.c_MOST_NAMES.2 (v := .int 3) ⟨_, rfl⟩ fun _ => .int _)) (de_one (de_callB (cx_all rfl) T.z_all (da_cons (de_lc [("one", 2)] rfl sc_is_path.nd (di_any (dv 1)) (blkOk_by (N := ["thing", "names", "one"]) (sc := defScope s_is_path) (by decide +kernel)) (fun s1 H1 C1 cl1 fp1 => (dg_name sc_is_path.nd)) (fun s1 H1 C1 cl1 fp1 => dts_nil) (fun s1 H1 C1 cl1 fp1 => (de_call G_is_name ((c.blk s1 H1 _ _ fp1).mono (by decide)) T.m_is_name T.F_is_name.kp T.b_is_name_1 (da_cons (dv 2) da_nil)))) da_nil)))))))
set_option maxHeartbeats 8000000 in
theorem ok_is_tuple (tin : TabIn K base mg) (T : Tops K mg) : FnG P w K mg base 1 T.f_is_tuple T.d_is_tuple ["thing", "many"] F_is_tuple := by
 refine FnG.framed <| FunD.g T.F_is_tuple sc_is_tuple fun cdv A outer s H E c => ?_
 exact (ds_one (ds_ret (de_and (de_callB cx_isi T.z_isinstance (da_cons (dv 0) (da_cons (de_ty T.z_tuple) da_nil))) (de_one (de_cmp (opx_eq c.room.units) (de_callB cx_len T.z_len (da_cons (dv 0) da_nil)) (dv 1))))))
set_option maxHeartbeats 8000000 in
theorem ok_is_aside (tin : TabIn K base mg) (T : Tops K mg) : FnG P w K mg base 3 T.f_is_aside T.d_is_aside ["thing"] F_is_aside := by
 have G_is_path := ok_is_path (P := P) (w := w) (base := base) tin T
 have G_is_tuple := ok_is_tuple (P := P) (w := w) (base := base) tin T
 refine FnG.framed <| FunD.g T.F_is_aside sc_is_aside fun cdv A outer s H E c => ?_
 exact (ds_one (ds_ret (de_and (de_call G_is_tuple (c.mono (by decide)) T.m_is_tuple T.F_is_tuple.kp T.b_is_tuple_2 (da_cons (dv 0) (da_cons dint da_nil))) (de_and (de_call G_is_path (c.mono (by decide)) T.m_is_path T.F_is_path.kp T.b_is_path_1 (da_cons (de_ix (dv 0) dint) da_nil)) (de_one (de_call G_is_path (c.mono (by decide)) T.m_is_path T.F_is_path.kp T.b_is_path_1 (da_cons (de_ix (dv 0) dint) da_nil)))))))
set_option maxHeartbeats 8000000 in
theorem ok_is_whole (tin : TabIn K base mg) (T : Tops K mg) : FnG P w K mg base 1 T.f_is_whole T.d_is_whole ["thing"] F_is_whole := by
 refine FnG.framed <| FunD.g T.F_is_whole sc_is_whole fun cdv A outer s H E c => ?_
 exact (ds_one (ds_ret (de_and (de_callB cx_isi T.z_isinstance (da_cons (dv 0) (da_cons (de_ty T.z_int) da_nil))) (de_one (de_not (de_callB cx_isi T.z_isinstance (da_cons (dv 0) (da_cons (de_ty T.z_bool) da_nil))))))))
set_option maxHeartbeats 8000000 in
theorem ok_is_from (tin : TabIn K base mg) (T : Tops K mg) : FnG P w K mg base 2 T.f_is_from T.d_is_from ["thing", "least", "most"] F_is_from := by
 have G_is_whole := ok_is_whole (P := P) (w := w) (base := base) tin T
 refine FnG.framed <| FunD.g T.F_is_from sc_is_from fun cdv A outer s H E c => ?_
 exact (ds_one (ds_ret (de_and (de_call G_is_whole (c.mono (by decide)) T.m_is_whole T.F_is_whole.kp T.b_is_whole_1 (da_cons (dv 0) da_nil)) (de_one (de_chain opx_le opx_le (dv 1) (dv 0) (dv 2))))))
set_option maxHeartbeats 8000000 in
theorem ok_is_choice (tin : TabIn K base mg) (T : Tops K mg) : FnG P w K mg base 3 T.f_is_choice T.d_is_choice ["thing"] F_is_choice := by
 have G_is_from := ok_is_from (P := P) (w := w) (base := base) tin T
 have G_is_path := ok_is_path (P := P) (w := w) (base := base) tin T
 have G_is_tuple := ok_is_tuple (P := P) (w := w) (base := base) tin T
 refine FnG.framed <| FunD.g T.F_is_choice sc_is_choice fun cdv A outer s H E c => ?_
 exact (ds_one (ds_ret (de_and (de_call G_is_tuple (c.mono (by decide)) T.m_is_tuple T.F_is_tuple.kp T.b_is_tuple_2 (da_cons (dv 0) (da_cons dint da_nil))) (de_and (de_call G_is_path (c.mono (by decide)) T.m_is_path T.F_is_path.kp T.b_is_path_1 (da_cons (de_ix (dv 0) dint) da_nil)) (de_and (de_call G_is_path (c.mono (by decide)) T.m_is_path T.F_is_path.kp T.b_is_path_1 (da_cons (de_ix (dv 0) dint) da_nil)) (de_one (de_callK G_is_from (c.mono (by decide)) T.m_is_from T.F_is_from.kp T.b_is_from_1_most (da_cons (de_ix (dv 0) dint) da_nil) (dk_cons (de_glob T.c_MOST_RANK.2 (v := .int 99) ⟨_, rfl⟩ fun _ => .int _) dk_nil))))))))
set_option maxHeartbeats 8000000 in
theorem ok_is_edition (tin : TabIn K base mg) (T : Tops K mg) : FnG P w K mg base 3 T.f_is_edition T.d_is_edition ["thing"] F_is_edition := by
 have G_is_from := ok_is_from (P := P) (w := w) (base := base) tin T
 refine FnG.framed <| FunD.g T.F_is_edition sc_is_edition fun cdv A outer s H E c => ?_
 exact (ds_one (ds_ret (de_callK G_is_from (c.mono (by decide)) T.m_is_from T.F_is_from.kp T.b_is_from_1_least_most (da_cons (dv 0) da_nil) (dk_cons dint (dk_cons (de_glob T.c_MOST_EDITION.2 (v := .int 999) ⟨_, rfl⟩ fun _ => .int _) dk_nil)))))
set_option maxHeartbeats 8000000 in
theorem ok_is_clash (tin : TabIn K base mg) (T : Tops K mg) : FnG P w K mg base 4 T.f_is_clash T.d_is_clash ["thing"] F_is_clash := by
 have G_is_edition := ok_is_edition (P := P) (w := w) (base := base) tin T
 have G_is_name := ok_is_name (P := P) (w := w) (base := base) tin T
 have G_is_tuple := ok_is_tuple (P := P) (w := w) (base := base) tin T
 refine FnG.framed <| FunD.g T.F_is_clash sc_is_clash fun cdv A outer s H E c => ?_
 exact (by refine ds_cons (ds_if (dt_w (dw_or (dt_not (dtest_val (de_call G_is_tuple (c.mono (by decide)) T.m_is_tuple T.F_is_tuple.kp T.b_is_tuple_2 (da_cons (dv 0) (da_cons dint da_nil))))) (dw_or1 (dt_not (dtest_val (de_call G_is_name (c.mono (by decide)) T.m_is_name T.F_is_name.kp T.b_is_name_1 (da_cons (de_ix (dv 0) dint) da_nil))))))) (ds_one (ds_ret dbool)) ds_nil) ?_; exact (ds_one (ds_ret (de_and (de_call G_is_edition (c.mono (by decide)) T.m_is_edition T.F_is_edition.kp T.b_is_edition_1 (da_cons (de_ix (dv 0) dint) da_nil)) (de_and (de_call G_is_edition (c.mono (by decide)) T.m_is_edition T.F_is_edition.kp T.b_is_edition_1 (da_cons (de_ix (dv 0) dint) da_nil)) (de_one (de_cmp opx_le (de_ix (dv 0) dint) (de_ix (dv 0) dint))))))))
set_option maxHeartbeats 8000000 in
theorem ok_is_deed (tin : TabIn K base mg) (T : Tops K mg) : FnG P w K mg base 3 T.f_is_deed T.d_is_deed ["thing"] F_is_deed := by
 have G_is_from := ok_is_from (P := P) (w := w) (base := base) tin T
 have G_is_name := ok_is_name (P := P) (w := w) (base := base) tin T
 have G_is_tuple := ok_is_tuple (P := P) (w := w) (base := base) tin T
 refine FnG.framed <| FunD.g T.F_is_deed sc_is_deed fun cdv A outer s H E c => ?_
 exact (by refine ds_cons (ds_if (dt_w (dw_or (dt_not (dtest_val (de_call G_is_tuple (c.mono (by decide)) T.m_is_tuple T.F_is_tuple.kp T.b_is_tuple_2 (da_cons (dv 0) (da_cons dint da_nil))))) (dw_or (dt_not (dtest_val (de_callB cx_isi T.z_isinstance (da_cons (de_ix (dv 0) dint) (da_cons (de_ty T.z_str) da_nil))))) (dw_or1 (dt_cmp (opx_notin c.room.units) (de_ix (dv 0) dint) (de_glob T.c_WHENS.2.1 (v := T.c_WHENS.1.2) T.c_WHENS.2.2.1 T.c_WHENS.2.2.2)))))) (ds_one (ds_ret dbool)) ds_nil) ?_; exact (ds_one (ds_ret (de_and (de_call G_is_name (c.mono (by decide)) T.m_is_name T.F_is_name.kp T.b_is_name_1 (da_cons (de_ix (dv 0) dint) da_nil)) (de_one (de_callK G_is_from (c.mono (by decide)) T.m_is_from T.F_is_from.kp T.b_is_from_1_least_most (da_cons (de_ix (dv 0) dint) da_nil) (dk_cons (de_neg (de_glob T.c_MOST_BY.2 (v := .int 99) ⟨_, rfl⟩ fun _ => .int _)) (dk_cons (de_glob T.c_MOST_BY.2 (v := .int 99) ⟨_, rfl⟩ fun _ => .int _) dk_nil))))))))
set_option maxHeartbeats 8000000 in
theorem ok_is_worth (tin : TabIn K base mg) (T : Tops K mg) : FnG P w K mg base 3 T.f_is_worth T.d_is_worth ["thing"] F_is_worth := by
 have G_is_from := ok_is_from (P := P) (w := w) (base := base) tin T
 refine FnG.framed <| FunD.g T.F_is_worth sc_is_worth fun cdv A outer s H E c => ?_
 exact (ds_one (ds_ret (de_callK G_is_from (c.mono (by decide)) T.m_is_from T.F_is_from.kp T.b_is_from_1_most (da_cons (dv 0) da_nil) (dk_cons (de_glob T.c_MOST_WORTH.2 (v := .int 1000000000) ⟨_, rfl⟩ fun _ => .int _) dk_nil))))
set_option maxHeartbeats 8000000 in
theorem ok_is_file (tin : TabIn K base mg) (T : Tops K mg) : FnG P w K mg base 4 T.f_is_file T.d_is_file ["thing"] F_is_file := by
 have G_is_path := ok_is_path (P := P) (w := w) (base := base) tin T
 have G_is_tuple := ok_is_tuple (P := P) (w := w) (base := base) tin T
 have G_is_worth := ok_is_worth (P := P) (w := w) (base := base) tin T
 refine FnG.framed <| FunD.g T.F_is_file sc_is_file fun cdv A outer s H E c => ?_
 exact (ds_one (ds_ret (de_and (de_call G_is_tuple (c.mono (by decide)) T.m_is_tuple T.F_is_tuple.kp T.b_is_tuple_2 (da_cons (dv 0) (da_cons dint da_nil))) (de_and (de_call G_is_path (c.mono (by decide)) T.m_is_path T.F_is_path.kp T.b_is_path_1 (da_cons (de_ix (dv 0) dint) da_nil)) (de_one (de_call G_is_worth (c.mono (by decide)) T.m_is_worth T.F_is_worth.kp T.b_is_worth_1 (da_cons (de_ix (dv 0) dint) da_nil)))))))
set_option maxHeartbeats 8000000 in
theorem ok_is_option (tin : TabIn K base mg) (T : Tops K mg) : FnG P w K mg base 4 T.f_is_option T.d_is_option ["thing"] F_is_option := by
 have G_is_edition := ok_is_edition (P := P) (w := w) (base := base) tin T
 have G_is_name := ok_is_name (P := P) (w := w) (base := base) tin T
 have G_is_tuple := ok_is_tuple (P := P) (w := w) (base := base) tin T
 refine FnG.framed <| FunD.g T.F_is_option sc_is_option fun cdv A outer s H E c => ?_
 exact (ds_one (ds_ret (de_and (de_call G_is_tuple (c.mono (by decide)) T.m_is_tuple T.F_is_tuple.kp T.b_is_tuple_2 (da_cons (dv 0) (da_cons dint da_nil))) (de_and (de_call G_is_name (c.mono (by decide)) T.m_is_name T.F_is_name.kp T.b_is_name_1 (da_cons (de_ix (dv 0) dint) da_nil)) (de_one (de_call G_is_edition (c.mono (by decide)) T.m_is_edition T.F_is_edition.kp T.b_is_edition_1 (da_cons (de_ix (dv 0) dint) da_nil)))))))
set_option maxHeartbeats 8000000 in
theorem ok_are_all_v1 (tin : TabIn K base mg) (T : Tops K mg) : FnG P w K mg base 5 T.f_are_all T.d_are_all ["thing", "most", "fits"] F_are_all_v1 := by
 have G_is_option := ok_is_option (P := P) (w := w) (base := base) tin T
 refine FnG.framed <| FunD.g T.F_are_all sc_are_all fun cdv A outer s H E c => ?_
 exact (ds_one (ds_ret (de_and (de_callB cx_isi T.z_isinstance (da_cons (dv 0) (da_cons (de_ty T.z_tuple) da_nil))) (de_and (de_cmp opx_le (de_callB cx_len T.z_len (da_cons (dv 0) da_nil)) (dv 1)) (de_one (de_callB (cx_all rfl) T.z_all (da_cons (de_lc [("one", 3)] rfl sc_are_all.nd (di_any (dv 0)) (blkOk_by (N := ["thing", "most", "fits", "one"]) (sc := defScope s_are_all) (by decide +kernel)) (fun s1 H1 C1 cl1 fp1 => (dg_name sc_are_all.nd)) (fun s1 H1 C1 cl1 fp1 => dts_nil) (fun s1 H1 C1 cl1 fp1 => (de_choose (de_callL cv_is_option T.fv_is_option G_is_option ((c.blk s1 H1 _ _ fp1).mono (by decide)) 2 T.F_is_option.kp T.b_is_option_1 (da_cons (dv 3) da_nil)) de_bad))) da_nil)))))))
set_option maxHeartbeats 8000000 in
theorem ok_heads_of (tin : TabIn K base mg) (T : Tops K mg) : FnG P w K mg base 1 T.f_heads_of T.d_heads_of ["some"] F_heads_of := by
 refine FnG.framed <| FunD.g T.F_heads_of sc_heads_of fun cdv A outer s H E c => ?_
 exact (ds_one (ds_ret (de_lc [("one", 1)] rfl sc_heads_of.nd (di_any (dv 0)) (blkOk_by (N := ["some", "one"]) (sc := defScope s_heads_of) (by decide +kernel)) (fun s1 H1 C1 cl1 fp1 => (dg_name sc_heads_of.nd)) (fun s1 H1 C1 cl1 fp1 => dts_nil) (fun s1 H1 C1 cl1 fp1 => (de_ix (dv 1) dint)))))
set_option maxHeartbeats 8000000 in
theorem ok_is_need (tin : TabIn K base mg) (T : Tops K mg) : FnG P w K mg base 6 T.f_is_need T.d_is_need ["thing"] F_is_need := by
 have G_are_all_v1 := ok_are_all_v1 (P := P) (w := w) (base := base) tin T
 have G_heads_of := ok_heads_of (P := P) (w := w) (base := base) tin T
 refine FnG.framed <| FunD.g T.F_is_need sc_is_need fun cdv A outer s H E c => ?_
 exact (by refine ds_cons (ds_if (dt_w (dw_or (dt_not (dtest_val (de_call G_are_all_v1 (c.mono (by decide)) T.m_are_all T.F_are_all.kp T.b_are_all_3 (da_cons (dv 0) (da_cons (de_glob T.c_MOST_OPTIONS.2 (v := .int 3) ⟨_, rfl⟩ fun _ => .int _) (da_cons (de_fn cv_is_option T.mv_is_option) da_nil)))))) (dw_or1 (dt_cmp (opx_eq c.room.units) (dv 0) (de_tup da_nil))))) (ds_one (ds_ret dbool)) ds_nil) ?_; exact (ds_one (ds_ret (de_cmp (opx_eq c.room.units) (de_lensetX T.z_len T.z_set (de_call G_heads_of (c.mono (by decide)) T.m_heads_of T.F_heads_of.kp T.b_heads_of_1 (da_cons (dv 0) da_nil))) (de_callB cx_len T.z_len (da_cons (dv 0) da_nil))))))
set_option maxHeartbeats 8000000 in
theorem ok_are_all_v2 (tin : TabIn K base mg) (T : Tops K mg) : FnG P w K mg base 7 T.f_are_all T.d_are_all ["thing", "most", "fits"] F_are_all_v2 := by
 have G_is_aside := ok_is_aside (P := P) (w := w) (base := base) tin T
 have G_is_choice := ok_is_choice (P := P) (w := w) (base := base) tin T
 have G_is_clash := ok_is_clash (P := P) (w := w) (base := base) tin T
 have G_is_deed := ok_is_deed (P := P) (w := w) (base := base) tin T
 have G_is_file := ok_is_file (P := P) (w := w) (base := base) tin T
 have G_is_name := ok_is_name (P := P) (w := w) (base := base) tin T
 have G_is_need := ok_is_need (P := P) (w := w) (base := base) tin T
 refine FnG.framed <| FunD.g T.F_are_all sc_are_all fun cdv A outer s H E c => ?_
 exact (ds_one (ds_ret (de_and (de_callB cx_isi T.z_isinstance (da_cons (dv 0) (da_cons (de_ty T.z_tuple) da_nil))) (de_and (de_cmp opx_le (de_callB cx_len T.z_len (da_cons (dv 0) da_nil)) (dv 1)) (de_one (de_callB (cx_all rfl) T.z_all (da_cons (de_lc [("one", 3)] rfl sc_are_all.nd (di_any (dv 0)) (blkOk_by (N := ["thing", "most", "fits", "one"]) (sc := defScope s_are_all) (by decide +kernel)) (fun s1 H1 C1 cl1 fp1 => (dg_name sc_are_all.nd)) (fun s1 H1 C1 cl1 fp1 => dts_nil) (fun s1 H1 C1 cl1 fp1 => (de_choose (de_callL cv_is_need T.fv_is_need G_is_need ((c.blk s1 H1 _ _ fp1).mono (by decide)) 2 T.F_is_need.kp T.b_is_need_1 (da_cons (dv 3) da_nil)) (de_choose (de_callL cv_is_clash T.fv_is_clash G_is_clash ((c.blk s1 H1 _ _ fp1).mono (by decide)) 2 T.F_is_clash.kp T.b_is_clash_1 (da_cons (dv 3) da_nil)) (de_choose (de_callL cv_is_file T.fv_is_file G_is_file ((c.blk s1 H1 _ _ fp1).mono (by decide)) 2 T.F_is_file.kp T.b_is_file_1 (da_cons (dv 3) da_nil)) (de_choose (de_callL cv_is_aside T.fv_is_aside G_is_aside ((c.blk s1 H1 _ _ fp1).mono (by decide)) 2 T.F_is_aside.kp T.b_is_aside_1 (da_cons (dv 3) da_nil)) (de_choose (de_callL cv_is_choice T.fv_is_choice G_is_choice ((c.blk s1 H1 _ _ fp1).mono (by decide)) 2 T.F_is_choice.kp T.b_is_choice_1 (da_cons (dv 3) da_nil)) (de_choose (de_callL cv_is_name T.fv_is_name G_is_name ((c.blk s1 H1 _ _ fp1).mono (by decide)) 2 T.F_is_name.kp T.b_is_name_1 (da_cons (dv 3) da_nil)) (de_choose (de_callL cv_is_deed T.fv_is_deed G_is_deed ((c.blk s1 H1 _ _ fp1).mono (by decide)) 2 T.F_is_deed.kp T.b_is_deed_1 (da_cons (dv 3) da_nil)) de_bad))))))))) da_nil)))))))
set_option maxHeartbeats 8000000 in
theorem ok_rise (tin : TabIn K base mg) (T : Tops K mg) : FnG P w K mg base 1 T.f_rise T.d_rise ["some"] F_rise := by
 refine FnG.framed <| FunD.g T.F_rise sc_rise fun cdv A outer s H E c => ?_
 exact (ds_one (ds_ret (de_callB (cx_all rfl) T.z_all (da_cons (de_lc [("one", 1), ("other", 2)] rfl sc_rise.nd (di_zip T.z_zip (da_cons (dv 0) (da_cons (de_slice (dv 0) (do_some dint) do_none) da_nil))) (blkOk_by (N := ["some", "one", "other"]) (sc := defScope s_rise) (by decide +kernel)) (fun s1 H1 C1 cl1 fp1 => (dg_tup rfl (dgs_cons (dg_name sc_rise.nd) (dgs_cons (dg_name sc_rise.nd) dgs_nil)))) (fun s1 H1 C1 cl1 fp1 => dts_nil) (fun s1 H1 C1 cl1 fp1 => (de_cmp opx_lt (dv 1) (dv 2)))) da_nil))))
set_option maxHeartbeats 8000000 in
theorem ok_are_rising (tin : TabIn K base mg) (T : Tops K mg) : FnG P w K mg base 8 T.f_are_rising T.d_are_rising ["thing", "most", "fits"] F_are_rising := by
 have G_are_all_v2 := ok_are_all_v2 (P := P) (w := w) (base := base) tin T
 have G_heads_of := ok_heads_of (P := P) (w := w) (base := base) tin T
 have G_rise := ok_rise (P := P) (w := w) (base := base) tin T
 refine FnG.framed <| FunD.g T.F_are_rising sc_are_rising fun cdv A outer s H E c => ?_
 exact (ds_one (ds_ret (de_and (de_call G_are_all_v2 (c.mono (by decide)) T.m_are_all T.F_are_all.kp T.b_are_all_3 (da_cons (dv 0) (da_cons (dv 1) (da_cons (dv 2) da_nil)))) (de_one (de_call G_rise (c.mono (by decide)) T.m_rise T.F_rise.kp T.b_rise_1 (da_cons (de_call G_heads_of (c.mono (by decide)) T.m_heads_of T.F_heads_of.kp T.b_heads_of_1 (da_cons (dv 0) da_nil)) da_nil))))))
set_option maxHeartbeats 8000000 in
theorem ok_are_asides (tin : TabIn K base mg) (T : Tops K mg) : FnG P w K mg base 9 T.f_are_asides T.d_are_asides ["thing", "files", "settings"] F_are_asides := by
 have G_are_rising := ok_are_rising (P := P) (w := w) (base := base) tin T
 have G_heads_of := ok_heads_of (P := P) (w := w) (base := base) tin T
 refine FnG.framed <| FunD.g T.F_are_asides sc_are_asides fun cdv A outer s H E c => ?_
 exact (by refine ds_cons (ds_if (dt_not (dtest_val (de_call G_are_rising (c.mono (by decide)) T.m_are_rising T.F_are_rising.kp T.b_are_rising_3 (da_cons (dv 0) (da_cons dint (da_cons (de_fn cv_is_aside T.mv_is_aside) da_nil)))))) (ds_one (ds_ret dbool)) ds_nil) ?_; refine ds_cons (ds_set 3 sc_are_asides.nd (de_call G_heads_of (c.mono (by decide)) T.m_heads_of T.F_heads_of.kp T.b_heads_of_1 (da_cons (dv 0) da_nil))) ?_; refine ds_cons (ds_setLc 4 [("path", 5), ("other", 6)] rfl sc_are_asides.nd (di_any (dv 0)) (blkOk_by (N := ["thing", "files", "settings", "paths", "others", "path", "other"]) (sc := defScope s_are_asides) (by decide +kernel)) (fun s1 H1 C1 cl1 fp1 => (dg_tup rfl (dgs_cons (dg_name sc_are_asides.nd) (dgs_cons (dg_name sc_are_asides.nd) dgs_nil)))) (fun s1 H1 C1 cl1 fp1 => dts_nil) (fun s1 H1 C1 cl1 fp1 => (dv 6))) ?_; refine ds_cons (ds_if (dt_w (dw_or (dt_cmp (opx_neX c.room.units) (de_lensetX T.z_len T.z_set (dv 4)) (de_callB cx_len T.z_len (da_cons (dv 4) da_nil))) (dw_or1 (dtest_val (de_callB (cx_any rfl) T.z_any (da_cons (de_lc [("path", 5)] rfl sc_are_asides.nd (di_any (dv 3)) (blkOk_by (N := ["thing", "files", "settings", "paths", "others", "path", "other"]) (sc := defScope s_are_asides) (by decide +kernel)) (fun s1 H1 C1 cl1 fp1 => (dg_name sc_are_asides.nd)) (fun s1 H1 C1 cl1 fp1 => dts_nil) (fun s1 H1 C1 cl1 fp1 => (de_cmp (opx_in (c.blk s1 H1 _ _ fp1).room.units) (dv 5) (de_call G_heads_of ((c.blk s1 H1 _ _ fp1).mono (by decide)) T.m_heads_of T.F_heads_of.kp T.b_heads_of_1 (da_cons (dv 2) da_nil))))) da_nil)))))) (ds_one (ds_ret dbool)) ds_nil) ?_; exact (ds_one (ds_ret (de_not (de_callB (cx_any rfl) T.z_any (da_cons (de_lc [("other", 6)] rfl sc_are_asides.nd (di_any (dv 4)) (blkOk_by (N := ["thing", "files", "settings", "paths", "others", "path", "other"]) (sc := defScope s_are_asides) (by decide +kernel)) (fun s1 H1 C1 cl1 fp1 => (dg_name sc_are_asides.nd)) (fun s1 H1 C1 cl1 fp1 => dts_nil) (fun s1 H1 C1 cl1 fp1 => (de_cmp (opx_in (c.blk s1 H1 _ _ fp1).room.units) (dv 6) (de_bin opx_addX (de_bin opx_addX (dv 3) (de_call G_heads_of ((c.blk s1 H1 _ _ fp1).mono (by decide)) T.m_heads_of T.F_heads_of.kp T.b_heads_of_1 (da_cons (dv 1) da_nil))) (de_call G_heads_of ((c.blk s1 H1 _ _ fp1).mono (by decide)) T.m_heads_of T.F_heads_of.kp T.b_heads_of_1 (da_cons (dv 2) da_nil)))))) da_nil))))))
set_option maxHeartbeats 8000000 in
theorem ok_are_calls (tin : TabIn K base mg) (T : Tops K mg) : FnG P w K mg base 8 T.f_are_calls T.d_are_calls ["thing"] F_are_calls := by
 have G_are_all_v2 := ok_are_all_v2 (P := P) (w := w) (base := base) tin T
 have G_rise := ok_rise (P := P) (w := w) (base := base) tin T
 refine FnG.framed <| FunD.g T.F_are_calls sc_are_calls fun cdv A outer s H E c => ?_
 exact (ds_one (ds_ret (de_and (de_call G_are_all_v2 (c.mono (by decide)) T.m_are_all T.F_are_all.kp T.b_are_all_3 (da_cons (dv 0) (da_cons dint (da_cons (de_fn cv_is_name T.mv_is_name) da_nil)))) (de_one (de_call G_rise (c.mono (by decide)) T.m_rise T.F_rise.kp T.b_rise_1 (da_cons (dv 0) da_nil))))))
set_option maxHeartbeats 8000000 in
theorem ok_are_choices (tin : TabIn K base mg) (T : Tops K mg) : FnG P w K mg base 9 T.f_are_choices T.d_are_choices ["thing", "files", "settings"] F_are_choices := by
 have G_are_rising := ok_are_rising (P := P) (w := w) (base := base) tin T
 have G_heads_of := ok_heads_of (P := P) (w := w) (base := base) tin T
 refine FnG.framed <| FunD.g T.F_are_choices sc_are_choices fun cdv A outer s H E c => ?_
 exact (by refine ds_cons (ds_if (dt_not (dtest_val (de_call G_are_rising (c.mono (by decide)) T.m_are_rising T.F_are_rising.kp T.b_are_rising_3 (da_cons (dv 0) (da_cons dint (da_cons (de_fn cv_is_choice T.mv_is_choice) da_nil)))))) (ds_one (ds_ret dbool)) ds_nil) ?_; refine ds_cons (ds_if (dtest_val (de_callB (cx_any rfl) T.z_any (da_cons (de_lc [("path", 3)] rfl sc_are_choices.nd (di_any (de_call G_heads_of (c.mono (by decide)) T.m_heads_of T.F_heads_of.kp T.b_heads_of_1 (da_cons (dv 0) da_nil))) (blkOk_by (N := ["thing", "files", "settings", "path", "target", "rank"]) (sc := defScope s_are_choices) (by decide +kernel)) (fun s1 H1 C1 cl1 fp1 => (dg_name sc_are_choices.nd)) (fun s1 H1 C1 cl1 fp1 => dts_nil) (fun s1 H1 C1 cl1 fp1 => (de_cmp (opx_in (c.blk s1 H1 _ _ fp1).room.units) (dv 3) (de_bin opx_addX (de_call G_heads_of ((c.blk s1 H1 _ _ fp1).mono (by decide)) T.m_heads_of T.F_heads_of.kp T.b_heads_of_1 (da_cons (dv 1) da_nil)) (de_call G_heads_of ((c.blk s1 H1 _ _ fp1).mono (by decide)) T.m_heads_of T.F_heads_of.kp T.b_heads_of_1 (da_cons (dv 2) da_nil)))))) da_nil))) (ds_one (ds_ret dbool)) ds_nil) ?_; exact (ds_one (ds_ret (de_callB (cx_all rfl) T.z_all (da_cons (de_lc [("path", 3), ("target", 4), ("rank", 5)] rfl sc_are_choices.nd (di_any (dv 0)) (blkOk_by (N := ["thing", "files", "settings", "path", "target", "rank"]) (sc := defScope s_are_choices) (by decide +kernel)) (fun s1 H1 C1 cl1 fp1 => (dg_tup rfl (dgs_cons (dg_name sc_are_choices.nd) (dgs_cons (dg_name sc_are_choices.nd) (dgs_cons (dg_name sc_are_choices.nd) dgs_nil))))) (fun s1 H1 C1 cl1 fp1 => dts_nil) (fun s1 H1 C1 cl1 fp1 => (de_cmp (opx_in (c.blk s1 H1 _ _ fp1).room.units) (dv 4) (de_call G_heads_of ((c.blk s1 H1 _ _ fp1).mono (by decide)) T.m_heads_of T.F_heads_of.kp T.b_heads_of_1 (da_cons (dv 1) da_nil))))) da_nil)))))
set_option maxHeartbeats 8000000 in
theorem ok_are_needs (tin : TabIn K base mg) (T : Tops K mg) : FnG P w K mg base 8 T.f_are_needs T.d_are_needs ["name", "thing"] F_are_needs := by
 have G_are_all_v2 := ok_are_all_v2 (P := P) (w := w) (base := base) tin T
 have G_heads_of := ok_heads_of (P := P) (w := w) (base := base) tin T
 refine FnG.framed <| FunD.g T.F_are_needs sc_are_needs fun cdv A outer s H E c => ?_
 exact (ds_one (ds_ret (de_and (de_call G_are_all_v2 (c.mono (by decide)) T.m_are_all T.F_are_all.kp T.b_are_all_3 (da_cons (dv 1) (da_cons dint (da_cons (de_fn cv_is_need T.mv_is_need) da_nil)))) (de_one (de_not (de_callB (cx_any rfl) T.z_any (da_cons (de_lc [("need", 2)] rfl sc_are_needs.nd (di_any (dv 1)) (blkOk_by (N := ["name", "thing", "need"]) (sc := defScope s_are_needs) (by decide +kernel)) (fun s1 H1 C1 cl1 fp1 => (dg_name sc_are_needs.nd)) (fun s1 H1 C1 cl1 fp1 => dts_nil) (fun s1 H1 C1 cl1 fp1 => (de_cmp (opx_in (c.blk s1 H1 _ _ fp1).room.units) (dv 0) (de_call G_heads_of ((c.blk s1 H1 _ _ fp1).mono (by decide)) T.m_heads_of T.F_heads_of.kp T.b_heads_of_1 (da_cons (dv 2) da_nil))))) da_nil)))))))
set_option maxHeartbeats 8000000 in
theorem ok_Parcel_init (tin : TabIn K base mg) (T : Tops K mg) : FnG P w K mg base 10 T.f_Parcel_init T.d_Parcel_init ["self", "name", "edition", "needs", "ahead", "clashes", "files", "settings", "asides", "choices", "calls", "deeds"] F_Parcel_init := by
 have G_are_all_v2 := ok_are_all_v2 (P := P) (w := w) (base := base) tin T
 have G_are_asides := ok_are_asides (P := P) (w := w) (base := base) tin T
 have G_are_calls := ok_are_calls (P := P) (w := w) (base := base) tin T
 have G_are_choices := ok_are_choices (P := P) (w := w) (base := base) tin T
 have G_are_needs := ok_are_needs (P := P) (w := w) (base := base) tin T
 have G_are_rising := ok_are_rising (P := P) (w := w) (base := base) tin T
 have G_heads_of := ok_heads_of (P := P) (w := w) (base := base) tin T
 have G_is_edition := ok_is_edition (P := P) (w := w) (base := base) tin T
 have G_is_name := ok_is_name (P := P) (w := w) (base := base) tin T
 refine FnG.framed <| FunD.g T.F_Parcel_init sc_Parcel_init fun cdv A outer s H E c => ?_
 exact (by refine ds_cons (ds_if (dt_not (dtest_val (de_call G_is_name (c.mono (by decide)) T.m_is_name T.F_is_name.kp T.b_is_name_1 (da_cons (dv 1) da_nil)))) (ds_one ds_bad) ds_nil) ?_; refine ds_cons (ds_if (dt_not (dtest_val (de_call G_is_edition (c.mono (by decide)) T.m_is_edition T.F_is_edition.kp T.b_is_edition_1 (da_cons (dv 2) da_nil)))) (ds_one ds_bad) ds_nil) ?_; refine ds_cons (ds_if (dt_not (dtest_val (de_call G_are_needs (c.mono (by decide)) T.m_are_needs T.F_are_needs.kp T.b_are_needs_2 (da_cons (dv 1) (da_cons (dv 3) da_nil))))) (ds_one ds_bad) ds_nil) ?_; refine ds_cons (ds_if (dt_not (dtest_val (de_call G_are_needs (c.mono (by decide)) T.m_are_needs T.F_are_needs.kp T.b_are_needs_2 (da_cons (dv 1) (da_cons (dv 4) da_nil))))) (ds_one ds_bad) ds_nil) ?_; refine ds_cons (ds_if (dt_w (dw_or (dt_not (dtest_val (de_call G_are_all_v2 (c.mono (by decide)) T.m_are_all T.F_are_all.kp T.b_are_all_3 (da_cons (dv 5) (da_cons dint (da_cons (de_fn cv_is_clash T.mv_is_clash) da_nil)))))) (dw_or1 (dt_cmp (opx_in c.room.units) (dv 1) (de_call G_heads_of (c.mono (by decide)) T.m_heads_of T.F_heads_of.kp T.b_heads_of_1 (da_cons (dv 5) da_nil)))))) (ds_one ds_bad) ds_nil) ?_; refine ds_cons (ds_if (dt_not (dtest_val (de_call G_are_rising (c.mono (by decide)) T.m_are_rising T.F_are_rising.kp T.b_are_rising_3 (da_cons (dv 6) (da_cons dint (da_cons (de_fn cv_is_file T.mv_is_file) da_nil)))))) (ds_one ds_bad) ds_nil) ?_; refine ds_cons (ds_if (dt_w (dw_or (dt_not (dtest_val (de_call G_are_rising (c.mono (by decide)) T.m_are_rising T.F_are_rising.kp T.b_are_rising_3 (da_cons (dv 7) (da_cons dint (da_cons (de_fn cv_is_file T.mv_is_file) da_nil)))))) (dw_or1 (dtest_val (de_callB (cx_any rfl) T.z_any (da_cons (de_lc [("path", 12)] rfl sc_Parcel_init.nd (di_any (de_call G_heads_of (c.mono (by decide)) T.m_heads_of T.F_heads_of.kp T.b_heads_of_1 (da_cons (dv 7) da_nil))) (blkOk_by (N := ["self", "name", "edition", "needs", "ahead", "clashes", "files", "settings", "asides", "choices", "calls", "deeds", "path"]) (sc := defScope s_Parcel_init) (by decide +kernel)) (fun s1 H1 C1 cl1 fp1 => (dg_name sc_Parcel_init.nd)) (fun s1 H1 C1 cl1 fp1 => dts_nil) (fun s1 H1 C1 cl1 fp1 => (de_cmp (opx_in (c.blk s1 H1 _ _ fp1).room.units) (dv 12) (de_call G_heads_of ((c.blk s1 H1 _ _ fp1).mono (by decide)) T.m_heads_of T.F_heads_of.kp T.b_heads_of_1 (da_cons (dv 6) da_nil))))) da_nil)))))) (ds_one ds_bad) ds_nil) ?_; refine ds_cons (ds_if (dt_not (dtest_val (de_call G_are_asides (c.mono (by decide)) T.m_are_asides T.F_are_asides.kp T.b_are_asides_3 (da_cons (dv 8) (da_cons (dv 6) (da_cons (dv 7) da_nil)))))) (ds_one ds_bad) ds_nil) ?_; refine ds_cons (ds_if (dt_not (dtest_val (de_call G_are_choices (c.mono (by decide)) T.m_are_choices T.F_are_choices.kp T.b_are_choices_3 (da_cons (dv 9) (da_cons (dv 6) (da_cons (dv 7) da_nil)))))) (ds_one ds_bad) ds_nil) ?_; refine ds_cons (ds_if (dt_not (dtest_val (de_call G_are_calls (c.mono (by decide)) T.m_are_calls T.F_are_calls.kp T.b_are_calls_1 (da_cons (dv 10) da_nil)))) (ds_one ds_bad) ds_nil) ?_; refine ds_cons (ds_if (dt_not (dtest_val (de_call G_are_all_v2 (c.mono (by decide)) T.m_are_all T.F_are_all.kp T.b_are_all_3 (da_cons (dv 11) (da_cons dint (da_cons (de_fn cv_is_deed T.mv_is_deed) da_nil)))))) (ds_one ds_bad) ds_nil) ?_; refine ds_cons (ds_setat T.at_own_name (dv 1) (dv 0)) ?_; refine ds_cons (ds_setat T.at_own_edition (dv 2) (dv 0)) ?_; exact (ds_one (ds_setat T.at_own_parts (de_tup (da_cons (dv 3) (da_cons (dv 4) (da_cons (dv 5) (da_cons (dv 6) (da_cons (dv 7) (da_cons (dv 8) (da_cons (dv 9) (da_cons (dv 10) (da_cons (dv 11) da_nil)))))))))) (dv 0))))
set_option maxHeartbeats 8000000 in
theorem ok_law_parcel (tin : TabIn K base mg) (T : Tops K mg) : FnG P w K mg base 12 T.f_law_parcel T.d_law_parcel ["_law_name", "_law_year", "_law_own"] F_law_parcel := by
 have G_Parcel_init := ok_Parcel_init (P := P) (w := w) (base := base) tin T
 refine FnG.framed <| FunD.g T.F_law_parcel sc_law_parcel fun cdv A outer s H E c => ?_
 exact (ds_one (ds_ret (de_makeK T.mk_Parcel G_Parcel_init (c.mono (by decide)) T.m_Parcel T.b_Parcel_init_3_needs_ahead_clashes_files_settings_asides_choices_calls_deeds (fun _ => mkq_O) (da_cons (dv 0) (da_cons (dv 1) da_nil)) (dk_cons (de_ixX c.room.units (dv 2) dstr) (dk_cons (de_ixX c.room.units (dv 2) dstr) (dk_cons (de_ixX c.room.units (dv 2) dstr) (dk_cons (de_ixX c.room.units (dv 2) dstr) (dk_cons (de_ixX c.room.units (dv 2) dstr) (dk_cons (de_ixX c.room.units (dv 2) dstr) (dk_cons (de_ixX c.room.units (dv 2) dstr) (dk_cons (de_ixX c.room.units (dv 2) dstr) (dk_cons (de_ixX c.room.units (dv 2) dstr) dk_nil))))))))))))
set_option maxHeartbeats 8000000 in
theorem ok_law_needs (tin : TabIn K base mg) (T : Tops K mg) : FnG P w K mg base 1 T.f_law_needs T.d_law_needs ["_law_d", "_law_k"] F_law_needs := by
 refine FnG.framed <| FunD.g T.F_law_needs sc_law_needs fun cdv A outer s H E c => ?_
 exact (by refine ds_cons (ds_set 2 sc_law_needs.nd (de_cel da_nil)) ?_; refine ds_cons (ds_for (passes_of rfl) rfl (di_range1 T.z_range (da_cons (de_bin opx_mod (de_ix (dv 0) (dv 1)) dint) da_nil)) (dg_name sc_law_needs.nd) (by refine ds_cons (ds_set 4 sc_law_needs.nd (de_cel da_nil)) ?_; refine ds_cons (ds_for (passes_of rfl) rfl (di_range1 T.z_range (da_cons (de_bin opx_addX dint (de_bin opx_mod (de_bin opx_addX (de_ix (dv 0) (de_bin opx_addX (dv 1) dint)) (dv 3)) dint)) da_nil)) (dg_name sc_law_needs.nd) (ds_one (ds_expr (de_bm PySem.F.plainAttrs_list PySem.F.slot_list_append PySem.F.type_list_append mx_append (dv 4) (da_cons (de_tup (da_cons (de_ix (de_lst (da_cons dstr (da_cons dstr (da_cons dstr da_nil)))) (de_bin opx_mod (de_bin opx_addX (dv 3) (dv 5)) dint)) (da_cons (de_ix (de_lst (da_cons dint (da_cons dint (da_cons dint da_nil)))) (de_bin opx_mod (de_bin opx_addX (dv 5) (de_ix (dv 0) (dv 1))) dint)) da_nil))) da_nil))))) ?_; exact (ds_one (ds_expr (de_bm PySem.F.plainAttrs_list PySem.F.slot_list_append PySem.F.type_list_append mx_append (dv 2) (da_cons (de_callTy cx_tupleX T.z_tuple (da_cons (dv 4) da_nil)) da_nil)))))) ?_; exact (ds_one (ds_ret (de_callTy cx_tupleX T.z_tuple (da_cons (dv 2) da_nil)))))
set_option maxHeartbeats 8000000 in
theorem ok_law_paths (tin : TabIn K base mg) (T : Tops K mg) : FnG P w K mg base 1 T.f_law_paths T.d_law_paths ["_law_some", "_law_many"] F_law_paths := by
 refine FnG.framed <| FunD.g T.F_law_paths sc_law_paths fun cdv A outer s H E c => ?_
 exact (ds_one (ds_ret (de_slice (de_callB cx_sorted T.z_sorted (da_cons (dv 0) da_nil)) do_none (do_some (dv 1)))))
set_option maxHeartbeats 8000000 in
theorem ok_law_parts (tin : TabIn K base mg) (T : Tops K mg) : FnG P w K mg base 2 T.f_law_parts T.d_law_parts ["_law_d"] F_law_parts := by
 have G_law_needs := ok_law_needs (P := P) (w := w) (base := base) tin T
 have G_law_paths := ok_law_paths (P := P) (w := w) (base := base) tin T
 refine FunD.g T.F_law_parts sc_law_parts fun cdv A outer s H E c => ?_
 exact (by refine ds_cons (ds_set 1 sc_law_parts.nd (de_call G_law_paths (c.mono (by decide)) T.m_law_paths T.F_law_paths.kp T.b_law_paths_2 (da_cons (de_lst (da_cons dstr (da_cons dstr (da_cons dstr (da_cons dstr (da_cons dstr (da_cons dstr (da_cons dstr (da_cons dstr da_nil))))))))) (da_cons (de_ixX c.room.units (dv 0) dint) da_nil)))) ?_; refine ds_cons (ds_set 2 sc_law_parts.nd (de_call G_law_paths (c.mono (by decide)) T.m_law_paths T.F_law_paths.kp T.b_law_paths_2 (da_cons (de_lst (da_cons dstr (da_cons dstr (da_cons dstr (da_cons dstr da_nil))))) (da_cons (de_bin opx_mod (de_ixX c.room.units (dv 0) dint) dint) da_nil)))) ?_; refine ds_cons (ds_set 3 sc_law_parts.nd (de_call G_law_paths (c.mono (by decide)) T.m_law_paths T.F_law_paths.kp T.b_law_paths_2 (da_cons (de_lst (da_cons dstr (da_cons dstr (da_cons dstr da_nil)))) (da_cons (de_bin opx_mod (de_ixX c.room.units (dv 0) dint) dint) da_nil)))) ?_; refine ds_cons (ds_set 4 sc_law_parts.nd (de_call G_law_paths (c.mono (by decide)) T.m_law_paths T.F_law_paths.kp T.b_law_paths_2 (da_cons (de_lst (da_cons dstr (da_cons dstr (da_cons dstr da_nil)))) (da_cons (de_bin opx_mulS (de_bin opx_mod (de_ixX c.room.units (dv 0) dint) dint) (de_callTy cx_int T.z_int (da_cons (de_cmp (opx_neC c.room.units) (dv 1) (de_lst da_nil)) da_nil))) da_nil)))) ?_; refine ds_cons (ds_set 5 sc_law_parts.nd (de_disp (dp_cons dstr (de_call G_law_needs (c.mono (by decide)) T.m_law_needs T.F_law_needs.kp T.b_law_needs_2 (da_cons (dv 0) (da_cons dint da_nil))) (dp_cons dstr (de_call G_law_needs (c.mono (by decide)) T.m_law_needs T.F_law_needs.kp T.b_law_needs_2 (da_cons (dv 0) (da_cons dint da_nil))) dp_nil)))) ?_; refine ds_cons (ds_setixX c.room.units (de_callTy cx_tupleX T.z_tuple (da_cons (de_lc [("_law_k", 7)] rfl sc_law_parts.nd (di_range1 T.z_range (da_cons (de_bin opx_mod (de_bin opx_mod (de_ixX c.room.units (dv 0) dint) dint) dint) da_nil)) (blkOk_by (N := ["_law_d", "_law_brought", "_law_tuned", "_law_led", "_law_picks", "_law_found", "_law_acts", "_law_k", "_law_path"]) (sc := defScope s_law_parts) (by decide +kernel)) (fun s1 H1 C1 cl1 fp1 => (dg_name sc_law_parts.nd)) (fun s1 H1 C1 cl1 fp1 => dts_nil) (fun s1 H1 C1 cl1 fp1 => (de_tup (da_cons (de_bin opx_mulS (de_ixX (c.blk s1 H1 _ _ fp1).room.units dstr (dv 7)) (de_bin opx_addX dint (dv 7))) (da_cons (de_bin opx_addX dint (dv 7)) (da_cons (de_ixX (c.blk s1 H1 _ _ fp1).room.units (de_lst (da_cons (de_bin opx_addX dint (dv 7)) (da_cons dint da_nil))) (de_bin opx_mod (de_ixX (c.blk s1 H1 _ _ fp1).room.units (dv 0) dint) dint)) da_nil)))))) da_nil)) (dv 5) dstr) ?_; refine ds_cons (ds_setixX c.room.units (de_callTy cx_tupleX T.z_tuple (da_cons (de_lc [("_law_k", 7), ("_law_path", 8)] rfl sc_law_parts.nd (di_enumX T.z_enumerate (da_cons (dv 1) da_nil)) (blkOk_by (N := ["_law_d", "_law_brought", "_law_tuned", "_law_led", "_law_picks", "_law_found", "_law_acts", "_law_k", "_law_path"]) (sc := defScope s_law_parts) (by decide +kernel)) (fun s1 H1 C1 cl1 fp1 => (dg_tup rfl (dgs_cons (dg_name sc_law_parts.nd) (dgs_cons (dg_name sc_law_parts.nd) dgs_nil)))) (fun s1 H1 C1 cl1 fp1 => dts_nil) (fun s1 H1 C1 cl1 fp1 => (de_tup (da_cons (dv 8) (da_cons (de_ixX (c.blk s1 H1 _ _ fp1).room.units (de_lst (da_cons dint (da_cons dint (da_cons (de_bin opx_pow dint dint) (da_cons dint da_nil))))) (de_bin opx_mod (de_bin opx_addX (dv 7) (de_ixX (c.blk s1 H1 _ _ fp1).room.units (dv 0) dint)) dint)) da_nil))))) da_nil)) (dv 5) dstr) ?_; refine ds_cons (ds_setixX c.room.units (de_callTy cx_tupleX T.z_tuple (da_cons (de_lc [("_law_k", 7), ("_law_path", 8)] rfl sc_law_parts.nd (di_enumX T.z_enumerate (da_cons (dv 2) da_nil)) (blkOk_by (N := ["_law_d", "_law_brought", "_law_tuned", "_law_led", "_law_picks", "_law_found", "_law_acts", "_law_k", "_law_path"]) (sc := defScope s_law_parts) (by decide +kernel)) (fun s1 H1 C1 cl1 fp1 => (dg_tup rfl (dgs_cons (dg_name sc_law_parts.nd) (dgs_cons (dg_name sc_law_parts.nd) dgs_nil)))) (fun s1 H1 C1 cl1 fp1 => dts_nil) (fun s1 H1 C1 cl1 fp1 => (de_tup (da_cons (dv 8) (da_cons (de_ixX (c.blk s1 H1 _ _ fp1).room.units (de_lst (da_cons dint (da_cons (de_bin opx_pow dint dint) da_nil))) (de_bin opx_mod (dv 7) dint)) da_nil))))) da_nil)) (dv 5) dstr) ?_; refine ds_cons (ds_setixX c.room.units (de_callTy cx_tupleX T.z_tuple (da_cons (de_lc [("_law_k", 7), ("_law_path", 8)] rfl sc_law_parts.nd (di_enumX T.z_enumerate (da_cons (dv 3) da_nil)) (blkOk_by (N := ["_law_d", "_law_brought", "_law_tuned", "_law_led", "_law_picks", "_law_found", "_law_acts", "_law_k", "_law_path"]) (sc := defScope s_law_parts) (by decide +kernel)) (fun s1 H1 C1 cl1 fp1 => (dg_tup rfl (dgs_cons (dg_name sc_law_parts.nd) (dgs_cons (dg_name sc_law_parts.nd) dgs_nil)))) (fun s1 H1 C1 cl1 fp1 => dts_nil) (fun s1 H1 C1 cl1 fp1 => (de_tup (da_cons (dv 8) (da_cons (de_bin opx_addX dstr (de_ixX (c.blk s1 H1 _ _ fp1).room.units dstr (dv 7))) da_nil))))) da_nil)) (dv 5) dstr) ?_; refine ds_cons (ds_setixX c.room.units (de_callTy cx_tupleX T.z_tuple (da_cons (de_lc [("_law_k", 7), ("_law_path", 8)] rfl sc_law_parts.nd (di_enumX T.z_enumerate (da_cons (dv 4) da_nil)) (blkOk_by (N := ["_law_d", "_law_brought", "_law_tuned", "_law_led", "_law_picks", "_law_found", "_law_acts", "_law_k", "_law_path"]) (sc := defScope s_law_parts) (by decide +kernel)) (fun s1 H1 C1 cl1 fp1 => (dg_tup rfl (dgs_cons (dg_name sc_law_parts.nd) (dgs_cons (dg_name sc_law_parts.nd) dgs_nil)))) (fun s1 H1 C1 cl1 fp1 => dts_nil) (fun s1 H1 C1 cl1 fp1 => (de_tup (da_cons (dv 8) (da_cons (de_ixX (c.blk s1 H1 _ _ fp1).room.units (dv 1) (de_bin opx_mod (dv 7) (de_callB cx_len T.z_len (da_cons (dv 1) da_nil)))) (da_cons (de_ixX (c.blk s1 H1 _ _ fp1).room.units (de_lst (da_cons dint (da_cons dint (da_cons dint da_nil)))) (dv 7)) da_nil)))))) da_nil)) (dv 5) dstr) ?_; refine ds_cons (ds_setixX c.room.units (de_callTy cx_tupleX T.z_tuple (da_cons (de_slice (de_lst (da_cons dstr (da_cons dstr (da_cons dstr (da_cons dstr da_nil))))) do_none (do_some (de_bin opx_mod (de_ixX c.room.units (dv 0) dint) dint))) da_nil)) (dv 5) dstr) ?_; refine ds_cons (ds_set 6 sc_law_parts.nd (de_lst (da_cons (de_tup (da_cons dstr (da_cons dstr (da_cons dint da_nil)))) (da_cons (de_tup (da_cons dstr (da_cons dstr (da_cons (de_neg dint) da_nil)))) (da_cons (de_tup (da_cons dstr (da_cons dstr (da_cons dint da_nil)))) (da_cons (de_tup (da_cons dstr (da_cons dstr (da_cons (de_neg dint) da_nil)))) da_nil)))))) ?_; refine ds_cons (ds_setixX c.room.units (de_callTy cx_tupleX T.z_tuple (da_cons (de_slice (dv 6) do_none (do_some (de_bin opx_mod (de_ixX c.room.units (dv 0) dint) dint))) da_nil)) (dv 5) dstr) ?_; exact (ds_one (ds_ret (dv 5))))
set_option maxHeartbeats 8000000 in
theorem ok_Parcel_ahead (tin : TabIn K base mg) (T : Tops K mg) : FnG P w K mg base 1 T.f_Parcel_ahead T.d_Parcel_ahead ["self"] F_Parcel_ahead := by
 refine FnG.framed <| FunD.g T.F_Parcel_ahead sc_Parcel_ahead fun cdv A outer s H E c => ?_
 exact (ds_one (ds_ret (de_ixX c.room.units (de_at T.at_own_parts (dv 0)) dint)))
set_option maxHeartbeats 8000000 in
theorem ok_Parcel_asides (tin : TabIn K base mg) (T : Tops K mg) : FnG P w K mg base 1 T.f_Parcel_asides T.d_Parcel_asides ["self"] F_Parcel_asides := by
 refine FnG.framed <| FunD.g T.F_Parcel_asides sc_Parcel_asides fun cdv A outer s H E c => ?_
 exact (ds_one (ds_ret (de_ixX c.room.units (de_at T.at_own_parts (dv 0)) dint)))
set_option maxHeartbeats 8000000 in
theorem ok_Parcel_called (tin : TabIn K base mg) (T : Tops K mg) : FnG P w K mg base 1 T.f_Parcel_called T.d_Parcel_called ["self"] F_Parcel_called := by
 refine FnG.framed <| FunD.g T.F_Parcel_called sc_Parcel_called fun cdv A outer s H E c => ?_
 exact (ds_one (ds_ret (de_at T.at_own_name (dv 0))))
set_option maxHeartbeats 8000000 in
theorem ok_Parcel_calls (tin : TabIn K base mg) (T : Tops K mg) : FnG P w K mg base 1 T.f_Parcel_calls T.d_Parcel_calls ["self"] F_Parcel_calls := by
 refine FnG.framed <| FunD.g T.F_Parcel_calls sc_Parcel_calls fun cdv A outer s H E c => ?_
 exact (ds_one (ds_ret (de_ixX c.room.units (de_at T.at_own_parts (dv 0)) dint)))
set_option maxHeartbeats 8000000 in
theorem ok_Parcel_choices (tin : TabIn K base mg) (T : Tops K mg) : FnG P w K mg base 1 T.f_Parcel_choices T.d_Parcel_choices ["self"] F_Parcel_choices := by
 refine FnG.framed <| FunD.g T.F_Parcel_choices sc_Parcel_choices fun cdv A outer s H E c => ?_
 exact (ds_one (ds_ret (de_ixX c.room.units (de_at T.at_own_parts (dv 0)) dint)))
set_option maxHeartbeats 8000000 in
theorem ok_Parcel_clashes (tin : TabIn K base mg) (T : Tops K mg) : FnG P w K mg base 1 T.f_Parcel_clashes T.d_Parcel_clashes ["self"] F_Parcel_clashes := by
 refine FnG.framed <| FunD.g T.F_Parcel_clashes sc_Parcel_clashes fun cdv A outer s H E c => ?_
 exact (ds_one (ds_ret (de_ixX c.room.units (de_at T.at_own_parts (dv 0)) dint)))
set_option maxHeartbeats 8000000 in
theorem ok_Parcel_deeds (tin : TabIn K base mg) (T : Tops K mg) : FnG P w K mg base 1 T.f_Parcel_deeds T.d_Parcel_deeds ["self"] F_Parcel_deeds := by
 refine FnG.framed <| FunD.g T.F_Parcel_deeds sc_Parcel_deeds fun cdv A outer s H E c => ?_
 exact (ds_one (ds_ret (de_ixX c.room.units (de_at T.at_own_parts (dv 0)) dint)))
set_option maxHeartbeats 8000000 in
theorem ok_Parcel_edition (tin : TabIn K base mg) (T : Tops K mg) : FnG P w K mg base 1 T.f_Parcel_edition T.d_Parcel_edition ["self"] F_Parcel_edition := by
 refine FnG.framed <| FunD.g T.F_Parcel_edition sc_Parcel_edition fun cdv A outer s H E c => ?_
 exact (ds_one (ds_ret (de_at T.at_own_edition (dv 0))))
set_option maxHeartbeats 8000000 in
theorem ok_Parcel_files (tin : TabIn K base mg) (T : Tops K mg) : FnG P w K mg base 1 T.f_Parcel_files T.d_Parcel_files ["self"] F_Parcel_files := by
 refine FnG.framed <| FunD.g T.F_Parcel_files sc_Parcel_files fun cdv A outer s H E c => ?_
 exact (ds_one (ds_ret (de_ixX c.room.units (de_at T.at_own_parts (dv 0)) dint)))
set_option maxHeartbeats 8000000 in
theorem ok_Parcel_needs (tin : TabIn K base mg) (T : Tops K mg) : FnG P w K mg base 1 T.f_Parcel_needs T.d_Parcel_needs ["self"] F_Parcel_needs := by
 refine FnG.framed <| FunD.g T.F_Parcel_needs sc_Parcel_needs fun cdv A outer s H E c => ?_
 exact (ds_one (ds_ret (de_ix (de_at T.at_own_parts (dv 0)) dint)))
set_option maxHeartbeats 8000000 in
theorem ok_Parcel_settings (tin : TabIn K base mg) (T : Tops K mg) : FnG P w K mg base 1 T.f_Parcel_settings T.d_Parcel_settings ["self"] F_Parcel_settings := by
 refine FnG.framed <| FunD.g T.F_Parcel_settings sc_Parcel_settings fun cdv A outer s H E c => ?_
 exact (ds_one (ds_ret (de_ixX c.room.units (de_at T.at_own_parts (dv 0)) dint)))
set_option maxHeartbeats 8000000 in
theorem ok_law_same (tin : TabIn K base mg) (T : Tops K mg) : FnG P w K mg base 2 T.f_law_same T.d_law_same ["_law_found", "_law_name", "_law_year", "_law_own"] F_law_same := by
 have G_Parcel_ahead := ok_Parcel_ahead (P := P) (w := w) (base := base) tin T
 have G_Parcel_asides := ok_Parcel_asides (P := P) (w := w) (base := base) tin T
 have G_Parcel_called := ok_Parcel_called (P := P) (w := w) (base := base) tin T
 have G_Parcel_calls := ok_Parcel_calls (P := P) (w := w) (base := base) tin T
 have G_Parcel_choices := ok_Parcel_choices (P := P) (w := w) (base := base) tin T
 have G_Parcel_clashes := ok_Parcel_clashes (P := P) (w := w) (base := base) tin T
 have G_Parcel_deeds := ok_Parcel_deeds (P := P) (w := w) (base := base) tin T
 have G_Parcel_edition := ok_Parcel_edition (P := P) (w := w) (base := base) tin T
 have G_Parcel_files := ok_Parcel_files (P := P) (w := w) (base := base) tin T
 have G_Parcel_needs := ok_Parcel_needs (P := P) (w := w) (base := base) tin T
 have G_Parcel_settings := ok_Parcel_settings (P := P) (w := w) (base := base) tin T
 refine FnG.framed <| FunD.g T.F_law_same sc_law_same fun cdv A outer s H E c => ?_
 exact (by refine ds_cons (ds_if (dt_w (dw_or (dt_cmp (opx_neC c.room.units) (de_meth0 G_Parcel_called (c.mono (by decide)) T.cl_Parcel T.me_Parcel_called T.b_Parcel_called_1 (dv 0)) (dv 1)) (dw_or1 (dt_cmp (opx_neC c.room.units) (de_meth0 G_Parcel_edition (c.mono (by decide)) T.cl_Parcel T.me_Parcel_edition T.b_Parcel_edition_1 (dv 0)) (dv 2))))) (ds_one (ds_ret dbool)) ds_nil) ?_; refine ds_cons (ds_set 4 sc_law_same.nd (de_lst (da_cons (de_meth0 G_Parcel_needs (c.mono (by decide)) T.cl_Parcel T.me_Parcel_needs T.b_Parcel_needs_1 (dv 0)) (da_cons (de_meth0 G_Parcel_ahead (c.mono (by decide)) T.cl_Parcel T.me_Parcel_ahead T.b_Parcel_ahead_1 (dv 0)) (da_cons (de_meth0 G_Parcel_clashes (c.mono (by decide)) T.cl_Parcel T.me_Parcel_clashes T.b_Parcel_clashes_1 (dv 0)) (da_cons (de_meth0 G_Parcel_files (c.mono (by decide)) T.cl_Parcel T.me_Parcel_files T.b_Parcel_files_1 (dv 0)) (da_cons (de_meth0 G_Parcel_settings (c.mono (by decide)) T.cl_Parcel T.me_Parcel_settings T.b_Parcel_settings_1 (dv 0)) da_nil))))))) ?_; refine ds_cons (ds_set 4 sc_law_same.nd (de_bin opx_addX (dv 4) (de_lst (da_cons (de_meth0 G_Parcel_asides (c.mono (by decide)) T.cl_Parcel T.me_Parcel_asides T.b_Parcel_asides_1 (dv 0)) (da_cons (de_meth0 G_Parcel_choices (c.mono (by decide)) T.cl_Parcel T.me_Parcel_choices T.b_Parcel_choices_1 (dv 0)) (da_cons (de_meth0 G_Parcel_calls (c.mono (by decide)) T.cl_Parcel T.me_Parcel_calls T.b_Parcel_calls_1 (dv 0)) (da_cons (de_meth0 G_Parcel_deeds (c.mono (by decide)) T.cl_Parcel T.me_Parcel_deeds T.b_Parcel_deeds_1 (dv 0)) da_nil))))))) ?_; refine ds_cons (ds_set 5 sc_law_same.nd (de_lst (da_cons (de_ixX c.room.units (dv 3) dstr) (da_cons (de_ixX c.room.units (dv 3) dstr) (da_cons (de_ixX c.room.units (dv 3) dstr) (da_cons (de_ixX c.room.units (dv 3) dstr) (da_cons (de_ixX c.room.units (dv 3) dstr) da_nil))))))) ?_; exact (ds_one (ds_ret (de_cmp (opx_eqM c.room.units) (de_callB (cx_reprM c.guards c.room.units) T.z_repr (da_cons (dv 4) da_nil)) (de_callB (cx_reprM c.guards c.room.units) T.z_repr (da_cons (de_bin opx_addX (dv 5) (de_lst (da_cons (de_ixX c.room.units (dv 3) dstr) (da_cons (de_ixX c.room.units (dv 3) dstr) (da_cons (de_ixX c.room.units (dv 3) dstr) (da_cons (de_ixX c.room.units (dv 3) dstr) da_nil)))))) da_nil))))))
set_option maxHeartbeats 8000000 in
theorem ok_law_row (tin : TabIn K base mg) (T : Tops K mg) : FnG P w K mg base 1 T.f_law_row T.d_law_row ["_law_word", "_law_thing"] F_law_row := by
 refine FnG.framed <| FunD.g T.F_law_row sc_law_row fun cdv A outer s H E c => ?_
 exact (by refine ds_cons (ds_if (dt_cmp (opx_eqM c.room.units) (dv 0) dstr) (ds_one (ds_ret (de_bin opx_addX dstr (dv 1)))) ds_nil) ?_; refine ds_cons (ds_if (dt_cmp (opx_inX c.room.units) (dv 0) (de_tup (da_cons dstr (da_cons dstr da_nil)))) (ds_one (ds_ret (de_bm PySem.F.plainAttrs_str PySem.F.slot_str_join PySem.F.type_str_join mx_join dstr (da_cons (de_bin opx_addX (de_lst (da_cons (dv 0) da_nil)) (de_lc [("_law_name", 3), ("_law_low", 4)] rfl sc_law_row.nd (di_any (dv 1)) (blkOk_by (N := ["_law_word", "_law_thing", "_law_one", "_law_name", "_law_low"]) (sc := defScope s_law_row) (by decide +kernel)) (fun s1 H1 C1 cl1 fp1 => (dg_tup rfl (dgs_cons (dg_name sc_law_row.nd) (dgs_cons (dg_name sc_law_row.nd) dgs_nil)))) (fun s1 H1 C1 cl1 fp1 => dts_nil) (fun s1 H1 C1 cl1 fp1 => (de_bin opx_addX (de_bin opx_addX (dv 3) dstr) (de_callTy cx_str T.z_str (da_cons (dv 4) da_nil)))))) da_nil)))) ds_nil) ?_; refine ds_cons (ds_if (dt_cmp (opx_eqM c.room.units) (dv 0) dstr) (ds_one (ds_ret (de_bin opx_addX (de_bin opx_addX (de_bin opx_addX (de_bin opx_addX (de_binT opx_addX (det_replC (de_ixX c.room.units (dv 1) dint))) dstr) (de_ixX c.room.units (dv 1) dint)) dstr) (de_callTy cx_str T.z_str (da_cons (de_ixX c.room.units (dv 1) dint) da_nil))))) ds_nil) ?_; exact (ds_one (ds_ret (de_bm PySem.F.plainAttrs_str PySem.F.slot_str_join PySem.F.type_str_join mx_join dstr (da_cons (de_bin opx_addX (de_lst (da_cons (dv 0) da_nil)) (de_lc [("_law_one", 2)] rfl sc_law_row.nd (di_any (dv 1)) (blkOk_by (N := ["_law_word", "_law_thing", "_law_one", "_law_name", "_law_low"]) (sc := defScope s_law_row) (by decide +kernel)) (fun s1 H1 C1 cl1 fp1 => (dg_name sc_law_row.nd)) (fun s1 H1 C1 cl1 fp1 => dts_nil) (fun s1 H1 C1 cl1 fp1 => (de_callTy cx_str T.z_str (da_cons (dv 2) da_nil))))) da_nil)))))
set_option maxHeartbeats 8000000 in
theorem ok_law_text (tin : TabIn K base mg) (T : Tops K mg) : FnG P w K mg base 2 T.f_law_text T.d_law_text ["_law_name", "_law_year", "_law_parts_here"] F_law_text := by
 have G_law_row := ok_law_row (P := P) (w := w) (base := base) tin T
 refine FnG.framed <| FunD.g T.F_law_text sc_law_text fun cdv A outer s H E c => ?_
 exact (by refine ds_cons (ds_set 3 sc_law_text.nd (de_lst (da_cons (de_bin opx_addX (de_bin opx_addX (de_bin opx_addX dstr (dv 0)) dstr) (de_callTy cx_str T.z_str (da_cons (dv 1) da_nil))) da_nil))) ?_; refine ds_cons (ds_set 4 sc_law_text.nd (de_disp (dp_cons dstr dstr (dp_cons dstr dstr (dp_cons dstr dstr (dp_cons dstr dstr (dp_cons dstr dstr dp_nil))))))) ?_; refine ds_cons (ds_expr (de_bm PySem.F.plainAttrs_dict PySem.F.slot_dict_update PySem.F.type_dict_update mx_update (dv 4) (da_cons (de_disp (dp_cons dstr dstr (dp_cons dstr dstr (dp_cons dstr dstr (dp_cons dstr dstr dp_nil))))) da_nil))) ?_; refine ds_cons (ds_for (passes_of rfl) rfl (di_any (de_lst (da_cons dstr (da_cons dstr (da_cons dstr (da_cons dstr (da_cons dstr (da_cons dstr (da_cons dstr (da_cons dstr (da_cons dstr da_nil))))))))))) (dg_name sc_law_text.nd) (ds_one (ds_set 3 sc_law_text.nd (de_bin opx_addX (dv 3) (de_lc [("_law_thing", 6)] rfl sc_law_text.nd (di_any (de_ixX c.room.units (dv 2) (dv 5))) (blkOk_by (N := ["_law_name", "_law_year", "_law_parts_here", "_law_rows", "_law_words", "_law_part", "_law_thing"]) (sc := defScope s_law_text) (by decide +kernel)) (fun s1 H1 C1 cl1 fp1 => (dg_name sc_law_text.nd)) (fun s1 H1 C1 cl1 fp1 => dts_nil) (fun s1 H1 C1 cl1 fp1 => (de_call G_law_row ((c.blk s1 H1 _ _ fp1).mono (by decide)) T.m_law_row T.F_law_row.kp T.b_law_row_2 (da_cons (de_ixX (c.blk s1 H1 _ _ fp1).room.units (dv 4) (dv 5)) (da_cons (dv 6) da_nil))))))))) ?_; exact (ds_one (ds_ret (de_bm PySem.F.plainAttrs_str PySem.F.slot_str_join PySem.F.type_str_join mx_join dstr (da_cons (dv 3) da_nil)))))
set_option maxHeartbeats 8000000 in
theorem ok_number_of (tin : TabIn K base mg) (T : Tops K mg) : FnG P w K mg base 1 T.f_number_of T.d_number_of ["word"] F_number_of := by
 refine FnG.framed <| FunD.g T.F_number_of sc_number_of fun cdv A outer s H E c => ?_
 exact (by refine ds_cons (ds_set 1 sc_number_of.nd (de_ifx (dtest_val (de_bm PySem.F.plainAttrs_str PySem.F.slot_str_startswith PySem.F.type_str_startswith mx_starts (dv 0) (da_cons dstr da_nil))) (de_slice (dv 0) (do_some dint) do_none) (dv 0))) ?_; refine ds_cons (ds_if (dt_w (dw_or (dt_not (dt_chain opx_le opx_le dint (de_callB cx_len T.z_len (da_cons (dv 1) da_nil)) (de_glob T.c_MOST_FIGURES.2 (v := .int 10) ⟨_, rfl⟩ fun _ => .int _))) (dw_or1 (dt_not (dtest_val (de_callB (cx_all rfl) T.z_all (da_cons (de_lc [("sign", 2)] rfl sc_number_of.nd (di_any (dv 1)) (blkOk_by (N := ["word", "figures", "sign"]) (sc := defScope s_number_of) (by decide +kernel)) (fun s1 H1 C1 cl1 fp1 => (dg_name sc_number_of.nd)) (fun s1 H1 C1 cl1 fp1 => dts_nil) (fun s1 H1 C1 cl1 fp1 => (de_cmp (opx_inX (c.blk s1 H1 _ _ fp1).room.units) (dv 2) dstr))) da_nil))))))) (ds_one (ds_ret dnon)) ds_nil) ?_; exact (ds_one (ds_ret (de_ifx (dt_cmp (opx_eqM c.room.units) (de_callTy cx_str T.z_str (da_cons (de_callTy cx_intX T.z_int (da_cons (dv 0) da_nil)) da_nil)) (dv 0)) (de_callTy cx_intX T.z_int (da_cons (dv 0) da_nil)) dnon))))
set_option maxHeartbeats 8000000 in
theorem ok_first_of (tin : TabIn K base mg) (T : Tops K mg) : FnG P w K mg base 3 T.f_first_of T.d_first_of ["row"] F_first_of := by
 have G_is_name := ok_is_name (P := P) (w := w) (base := base) tin T
 have G_number_of := ok_number_of (P := P) (w := w) (base := base) tin T
 refine FnG.framed <| FunD.g T.F_first_of sc_first_of fun cdv A outer s H E c => ?_
 exact (by refine ds_cons (ds_set 1 sc_first_of.nd (de_bm PySem.F.plainAttrs_str PySem.F.slot_str_split PySem.F.type_str_split mx_split (dv 0) (da_cons dstr da_nil))) ?_; refine ds_cons (ds_if (dt_w (dw_or (dt_cmp (opx_neC c.room.units) (de_callB cx_len T.z_len (da_cons (dv 1) da_nil)) dint) (dw_or (dt_cmp (opx_neC c.room.units) (de_ixX c.room.units (dv 1) dint) dstr) (dw_or (dt_not (dtest_val (de_call G_is_name (c.mono (by decide)) T.m_is_name T.F_is_name.kp T.b_is_name_1 (da_cons (de_ixX c.room.units (dv 1) dint) da_nil)))) (dw_or1 (dt_cmp opx_is (de_call G_number_of (c.mono (by decide)) T.m_number_of T.F_number_of.kp T.b_number_of_1 (da_cons (de_ixX c.room.units (dv 1) dint) da_nil)) dnon)))))) (ds_one (ds_raise1 T.oex_NoText T.ini_NoText.1 T.ini_NoText.2 (ei_NoText (P := P) (w := w) (base := base) T) T.bi_NoText (c.mono (by decide)) T.m_NoText (da_cons dint da_nil))) ds_nil) ?_; exact (ds_one (ds_ret (de_tup (da_cons (de_ixX c.room.units (dv 1) dint) (da_cons (de_call G_number_of (c.mono (by decide)) T.m_number_of T.F_number_of.kp T.b_number_of_1 (da_cons (de_ixX c.room.units (dv 1) dint) da_nil)) da_nil))))))
set_option maxHeartbeats 8000000 in
theorem ok_look_at_text (tin : TabIn K base mg) (T : Tops K mg) : FnG P w K mg base 3 T.f_look_at_text T.d_look_at_text ["text"] F_look_at_text := by
 refine FnG.framed <| FunD.g T.F_look_at_text sc_look_at_text fun cdv A outer s H E c => ?_
 exact (ds_one (ds_if (dt_not (dtest_val (de_callB cx_isi T.z_isinstance (da_cons (dv 0) (da_cons (de_ty T.z_str) da_nil))))) (ds_one (ds_raise1 T.oex_NoText T.ini_NoText.1 T.ini_NoText.2 (ei_NoText (P := P) (w := w) (base := base) T) T.bi_NoText (c.mono (by decide)) T.m_NoText (da_cons dint da_nil))) ds_nil))
set_option maxHeartbeats 8000000 in
theorem ok_name_of (tin : TabIn K base mg) (T : Tops K mg) : FnG P w K mg base 2 T.f_name_of T.d_name_of ["word"] F_name_of := by
 have G_is_name := ok_is_name (P := P) (w := w) (base := base) tin T
 refine FnG.framed <| FunD.g T.F_name_of sc_name_of fun cdv A outer s H E c => ?_
 exact (ds_one (ds_ret (de_ifx (dtest_val (de_call G_is_name (c.mono (by decide)) T.m_is_name T.F_is_name.kp T.b_is_name_1 (da_cons (dv 0) da_nil))) (dv 0) dnon)))
set_option maxHeartbeats 8000000 in
theorem ok_option_of (tin : TabIn K base mg) (T : Tops K mg) : FnG P w K mg base 2 T.f_option_of T.d_option_of ["word"] F_option_of := by
 have G_is_name := ok_is_name (P := P) (w := w) (base := base) tin T
 have G_number_of := ok_number_of (P := P) (w := w) (base := base) tin T
 refine FnG.framed <| FunD.g T.F_option_of sc_option_of fun cdv A outer s H E c => ?_
 exact (by refine ds_cons (ds_asg (de_bm PySem.F.plainAttrs_str PySem.F.slot_str_partition PySem.F.type_str_partition mx_part (dv 0) (da_cons dstr da_nil)) (dg_tup rfl (dgs_cons (dg_name sc_option_of.nd) (dgs_cons (dg_name sc_option_of.nd) (dgs_cons (dg_name sc_option_of.nd) dgs_nil))))) ?_; refine ds_cons (ds_set 1 sc_option_of.nd (de_call G_number_of (c.mono (by decide)) T.m_number_of T.F_number_of.kp T.b_number_of_1 (da_cons (dv 4) da_nil))) ?_; exact (ds_one (ds_ret (de_ifx (dt_w (dw_and (dt_cmp (opx_neC c.room.units) (dv 3) dstr) (dw_and (dtest_val (de_call G_is_name (c.mono (by decide)) T.m_is_name T.F_is_name.kp T.b_is_name_1 (da_cons (dv 2) da_nil))) (dw_and1 (dt_cmp opx_isnt (dv 1) dnon))))) (de_tup (da_cons (dv 2) (da_cons (dv 1) da_nil))) dnon))))
set_option maxHeartbeats 8000000 in
theorem ok_path_of (tin : TabIn K base mg) (T : Tops K mg) : FnG P w K mg base 3 T.f_path_of T.d_path_of ["word"] F_path_of := by
 have G_is_path := ok_is_path (P := P) (w := w) (base := base) tin T
 refine FnG.framed <| FunD.g T.F_path_of sc_path_of fun cdv A outer s H E c => ?_
 exact (ds_one (ds_ret (de_ifx (dtest_val (de_call G_is_path (c.mono (by decide)) T.m_is_path T.F_is_path.kp T.b_is_path_1 (da_cons (dv 0) da_nil))) (dv 0) dnon)))
set_option maxHeartbeats 8000000 in
theorem ok_when_of (tin : TabIn K base mg) (T : Tops K mg) : FnG P w K mg base 1 T.f_when_of T.d_when_of ["word"] F_when_of := by
 refine FnG.framed <| FunD.g T.F_when_of sc_when_of fun cdv A outer s H E c => ?_
 exact (by refine ds_cons (ds_set 1 sc_when_of.nd (de_replG T.tk_DASH_BLANK (dv 0))) ?_; exact (ds_one (ds_ret (de_ifx (dt_w (dw_and (dt_cmp (opx_inX c.room.units) (dv 1) (de_glob T.c_WHENS.2.1 (v := T.c_WHENS.1.2) T.c_WHENS.2.2.1 T.c_WHENS.2.2.2)) (dw_and1 (dt_cmp (opx_notinX c.room.units) dstr (dv 0))))) (dv 1) dnon))))
set_option maxHeartbeats 8000000 in
theorem ok_thing_of (tin : TabIn K base mg) (T : Tops K mg) : FnG P w K mg base 4 T.f_thing_of T.d_thing_of ["row"] F_thing_of := by
 have G_name_of := ok_name_of (P := P) (w := w) (base := base) tin T
 have G_number_of := ok_number_of (P := P) (w := w) (base := base) tin T
 have G_option_of := ok_option_of (P := P) (w := w) (base := base) tin T
 have G_path_of := ok_path_of (P := P) (w := w) (base := base) tin T
 have G_when_of := ok_when_of (P := P) (w := w) (base := base) tin T
 refine FnG.framed <| FunD.g T.F_thing_of sc_thing_of fun cdv A outer s H E c => ?_
 exact (by refine ds_cons (ds_star 1 3 sc_thing_of.nd rfl (de_bm PySem.F.plainAttrs_str PySem.F.slot_str_split PySem.F.type_str_split mx_split (dv 0) (da_cons dstr da_nil))) ?_; refine ds_cons (ds_if (dt_cmp (opx_notinG T.tb_FORMS) (dv 1) (de_glob (v := .ref (cl K ct_FORMS)) T.m_FORMS rfl fun _ => .glo _)) (ds_one (ds_ret dnon)) ds_nil) ?_; refine ds_cons (ds_if (dt_cmp (opx_inX c.room.units) (dv 1) (de_tup (da_cons dstr (da_cons dstr da_nil)))) (ds_one (ds_setLcC 2 [("one", 4)] rfl sc_thing_of.nd (di_any (dv 3)) (blkOk_by (N := ["row", "word", "found", "words", "one", "sort", "reader"]) (sc := defScope s_thing_of) (by decide +kernel)) (fun s1 H1 C1 cl1 fp1 => (dg_name sc_thing_of.nd)) (fun s1 H1 C1 cl1 fp1 => dts_nil) (fun s1 H1 C1 cl1 fp1 => (de_call G_option_of ((c.blk s1 H1 _ _ fp1).mono (by decide)) T.m_option_of T.F_option_of.kp T.b_option_of_1 (da_cons (dv 4) da_nil))))) (ds_one (ds_if (dt_cmp (opx_neC c.room.units) (de_callB cx_len T.z_len (da_cons (dv 3) da_nil)) (de_callB cx_len T.z_len (da_cons (de_ixG T.tb_FORMS (de_glob (v := .ref (cl K ct_FORMS)) T.m_FORMS rfl fun _ => .glo _) (dv 1)) da_nil))) (ds_one (ds_ret dnon)) (by refine ds_cons (ds_set 2 sc_thing_of.nd (de_cel da_nil)) ?_; exact (ds_one (ds_for (passes_of rfl) rfl (di_zipT T.z_zip (da_cons (de_ixG T.tb_FORMS (de_glob (v := .ref (cl K ct_FORMS)) T.m_FORMS rfl fun _ => .glo _) (dv 1)) (da_cons (dv 3) da_nil))) (dg_tup rfl (dgs_cons (dg_name sc_thing_of.nd) (dgs_cons (dg_name sc_thing_of.nd) dgs_nil))) (by refine ds_cons (ds_set 6 sc_thing_of.nd (de_ixG T.tb_READERS (de_glob (v := .ref (cl K ct_READERS)) T.m_READERS rfl fun _ => .glo _) (dv 5))) ?_; exact (ds_one (ds_expr (de_bm PySem.F.plainAttrs_list PySem.F.slot_list_append PySem.F.type_list_append mx_append (dv 2) (da_cons (de_choose (de_callL cv_name_of T.fv_name_of G_name_of (c.mono (by decide)) 6 T.F_name_of.kp T.b_name_of_1 (da_cons (dv 4) da_nil)) (de_choose (de_callL cv_number_of T.fv_number_of G_number_of (c.mono (by decide)) 6 T.F_number_of.kp T.b_number_of_1 (da_cons (dv 4) da_nil)) (de_choose (de_callL cv_path_of T.fv_path_of G_path_of (c.mono (by decide)) 6 T.F_path_of.kp T.b_path_of_1 (da_cons (dv 4) da_nil)) (de_choose (de_callL cv_when_of T.fv_when_of G_when_of (c.mono (by decide)) 6 T.F_when_of.kp T.b_when_of_1 (da_cons (dv 4) da_nil)) de_bad)))) da_nil))))))))))) ?_; refine ds_cons (ds_if (dt_w (dw_or (dt_cmp (opx_eqC c.room.units) (dv 2) (de_lst da_nil)) (dw_or1 (dt_cmp (opx_inX c.room.units) dnon (dv 2))))) (ds_one (ds_ret dnon)) ds_nil) ?_; exact (ds_one (ds_ret (de_tup (da_cons (dv 1) (da_cons (de_ifx (dt_cmp (opx_eqC c.room.units) (dv 1) dstr) (de_ixX c.room.units (dv 2) dint) (de_callTy cx_tupleX T.z_tuple (da_cons (dv 2) da_nil))) da_nil))))))
set_option maxHeartbeats 8000000 in
theorem ok_read_parcel (tin : TabIn K base mg) (T : Tops K mg) : FnG P w K mg base 12 T.f_read_parcel T.d_read_parcel ["text"] F_read_parcel := by
 have G_Parcel_init := ok_Parcel_init (P := P) (w := w) (base := base) tin T
 have G_first_of := ok_first_of (P := P) (w := w) (base := base) tin T
 have G_look_at_text := ok_look_at_text (P := P) (w := w) (base := base) tin T
 have G_thing_of := ok_thing_of (P := P) (w := w) (base := base) tin T
 refine FnG.framed <| FunD.g T.F_read_parcel sc_read_parcel fun cdv A outer s H E c => ?_
 exact (by refine ds_cons (ds_expr (de_call G_look_at_text (c.mono (by decide)) T.m_look_at_text T.F_look_at_text.kp T.b_look_at_text_1 (da_cons (dv 0) da_nil))) ?_; refine ds_cons (ds_star 4 19 sc_read_parcel.nd rfl (de_bm PySem.F.plainAttrs_str PySem.F.slot_str_split PySem.F.type_str_split mx_split (dv 0) (da_cons dstr da_nil))) ?_; refine ds_cons (ds_asg (de_call G_first_of (c.mono (by decide)) T.m_first_of T.F_first_of.kp T.b_first_of_1 (da_cons (dv 4) da_nil)) (dg_tup rfl (dgs_cons (dg_name sc_read_parcel.nd) (dgs_cons (dg_name sc_read_parcel.nd) dgs_nil)))) ?_; refine ds_cons (ds_set 1 sc_read_parcel.nd (de_dc [("word", 20)] rfl sc_read_parcel.nd (di_any (de_glob T.c_ORDER.2.1 (v := T.c_ORDER.1.2) T.c_ORDER.2.2.1 T.c_ORDER.2.2.2)) (blkOk_by (N := ["text", "parts", "last", "e", "first", "name", "edition", "number", "row", "found", "needs", "ahead", "clashes", "files", "settings", "asides", "choices", "calls", "deeds", "rows", "word"]) (sc := defScope s_read_parcel) (by decide +kernel)) (fun s1 H1 C1 cl1 fp1 => (dg_name sc_read_parcel.nd)) (fun s1 H1 C1 cl1 fp1 => dts_nil) (fun s1 H1 C1 cl1 fp1 => (dv 20)) (fun s1 H1 C1 cl1 fp1 => (de_cel da_nil)))) ?_; refine ds_cons (ds_set 2 sc_read_parcel.nd dint) ?_; refine ds_cons (ds_for (passes_of rfl) rfl (di_enum1 T.z_enumerate (da_cons (dv 19) da_nil)) (dg_tup rfl (dgs_cons (dg_name sc_read_parcel.nd) (dgs_cons (dg_name sc_read_parcel.nd) dgs_nil))) (by refine ds_cons (ds_set 9 sc_read_parcel.nd (de_call G_thing_of (c.mono (by decide)) T.m_thing_of T.F_thing_of.kp T.b_thing_of_1 (da_cons (dv 8) da_nil))) ?_; refine ds_cons (ds_if (dt_w (dw_or (dt_cmp opx_is (dv 9) dnon) (dw_or1 (dt_cmp opx_lt (de_tupIdx T.tx_ORDER (de_ixX c.room.units (dv 9) dint)) (dv 2))))) (ds_one (ds_raise1 T.oex_NoText T.ini_NoText.1 T.ini_NoText.2 (ei_NoText (P := P) (w := w) (base := base) T) T.bi_NoText (c.mono (by decide)) T.m_NoText (da_cons (dv 7) da_nil))) ds_nil) ?_; refine ds_cons (ds_set 2 sc_read_parcel.nd (de_tupIdx T.tx_ORDER (de_ixX c.room.units (dv 9) dint))) ?_; exact (ds_one (ds_expr (de_bm PySem.F.plainAttrs_list PySem.F.slot_list_append PySem.F.type_list_append mx_append (de_ixX c.room.units (dv 1) (de_ixX c.room.units (dv 9) dint)) (da_cons (de_ixX c.room.units (dv 9) dint) da_nil)))))) ?_; refine ds_cons (ds_asgL rfl (de_lc [("word", 20)] rfl sc_read_parcel.nd (di_any (de_glob T.c_ORDER.2.1 (v := T.c_ORDER.1.2) T.c_ORDER.2.2.1 T.c_ORDER.2.2.2)) (blkOk_by (N := ["text", "parts", "last", "e", "first", "name", "edition", "number", "row", "found", "needs", "ahead", "clashes", "files", "settings", "asides", "choices", "calls", "deeds", "rows", "word"]) (sc := defScope s_read_parcel) (by decide +kernel)) (fun s1 H1 C1 cl1 fp1 => (dg_name sc_read_parcel.nd)) (fun s1 H1 C1 cl1 fp1 => dts_nil) (fun s1 H1 C1 cl1 fp1 => (de_callTy cx_tupleX T.z_tuple (da_cons (de_ixX (c.blk s1 H1 _ _ fp1).room.units (dv 1) (dv 20)) da_nil)))) (dgs_cons (dg_name sc_read_parcel.nd) (dgs_cons (dg_name sc_read_parcel.nd) (dgs_cons (dg_name sc_read_parcel.nd) (dgs_cons (dg_name sc_read_parcel.nd) (dgs_cons (dg_name sc_read_parcel.nd) (dgs_cons (dg_name sc_read_parcel.nd) (dgs_cons (dg_name sc_read_parcel.nd) (dgs_cons (dg_name sc_read_parcel.nd) (dgs_cons (dg_name sc_read_parcel.nd) dgs_nil)))))))))) ?_; exact (ds_one (ds_try rfl rfl sc_read_parcel.nd c (fun W1 pn1 xe1 c1 po1 => (ds_one (ds_ret (de_makeK T.mk_Parcel G_Parcel_init (c1.mono (by decide)) T.m_Parcel T.b_Parcel_init_3_needs_ahead_clashes_files_settings_asides_choices_calls_deeds (fun _ => mkq_O) (da_cons (dv 5) (da_cons (dv 6) da_nil)) (dk_cons (dv 10) (dk_cons (dv 11) (dk_cons (dv 12) (dk_cons (dv 13) (dk_cons (dv 14) (dk_cons (dv 15) (dk_cons (dv 16) (dk_cons (dv 17) (dk_cons (dv 18) dk_nil))))))))))))) (.as 3 rfl rfl ⟨rfl, by decide, .inl T.m_NoParcel⟩ T.exm_NoParcel (fun cc fs hm a oe cls d pn hcl hz hf => (dsp_lift (ds_one ds_bad)))
          .nil))))
set_option maxHeartbeats 8000000 in
theorem ok_shown_thing (tin : TabIn K base mg) (T : Tops K mg) : FnG P w K mg base 1 T.f_shown_thing T.d_shown_thing ["word", "thing"] F_shown_thing := by
 refine FnG.framed <| FunD.g T.F_shown_thing sc_shown_thing fun cdv A outer s H E c => ?_
 exact (by refine ds_cons (ds_if (dt_cmp (opx_eqM c.room.units) (dv 0) dstr) (ds_one (ds_ret (de_bin opx_addX (de_bin opx_addX (dv 0) dstr) (dv 1)))) ds_nil) ?_; refine ds_cons (ds_if (dt_cmp (opx_inX c.room.units) (dv 0) (de_tup (da_cons dstr (da_cons dstr da_nil)))) (ds_one (ds_ret (de_bm PySem.F.plainAttrs_str PySem.F.slot_str_join PySem.F.type_str_join mx_join dstr (da_cons (de_bin opx_addX (de_lst (da_cons (dv 0) da_nil)) (de_lc [("name", 6), ("low", 7)] rfl sc_shown_thing.nd (di_any (dv 1)) (blkOk_by (N := ["word", "thing", "when", "mark", "by", "one", "name", "low"]) (sc := defScope s_shown_thing) (by decide +kernel)) (fun s1 H1 C1 cl1 fp1 => (dg_tup rfl (dgs_cons (dg_name sc_shown_thing.nd) (dgs_cons (dg_name sc_shown_thing.nd) dgs_nil)))) (fun s1 H1 C1 cl1 fp1 => dts_nil) (fun s1 H1 C1 cl1 fp1 => (de_joined (.cons (de_fmt (dv 6)) (.cons dstr (.cons (de_fmt (dv 7)) .nil))))))) da_nil)))) ds_nil) ?_; refine ds_cons (ds_if (dt_cmp (opx_eqM c.room.units) (dv 0) dstr) (by refine ds_cons (ds_asg (dv 1) (dg_tup rfl (dgs_cons (dg_name sc_shown_thing.nd) (dgs_cons (dg_name sc_shown_thing.nd) (dgs_cons (dg_name sc_shown_thing.nd) dgs_nil))))) ?_; exact (ds_one (ds_ret (de_joined (.cons dstr (.cons (de_fmt (de_replG T.tk_BLANK_DASH (dv 2))) (.cons dstr (.cons (de_fmt (dv 3)) (.cons dstr (.cons (de_fmt (dv 4)) .nil)))))))))) ds_nil) ?_; exact (ds_one (ds_ret (de_bm PySem.F.plainAttrs_str PySem.F.slot_str_join PySem.F.type_str_join mx_join dstr (da_cons (de_bin opx_addX (de_lst (da_cons (dv 0) da_nil)) (de_lc [("one", 5)] rfl sc_shown_thing.nd (di_any (dv 1)) (blkOk_by (N := ["word", "thing", "when", "mark", "by", "one", "name", "low"]) (sc := defScope s_shown_thing) (by decide +kernel)) (fun s1 H1 C1 cl1 fp1 => (dg_name sc_shown_thing.nd)) (fun s1 H1 C1 cl1 fp1 => dts_nil) (fun s1 H1 C1 cl1 fp1 => (de_callTy cx_str T.z_str (da_cons (dv 5) da_nil))))) da_nil)))))
set_option maxHeartbeats 8000000 in
theorem ok_show_parcel (tin : TabIn K base mg) (T : Tops K mg) : FnG P w K mg base 2 T.f_show_parcel T.d_show_parcel ["parcel"] F_show_parcel := by
 have G_Parcel_ahead := ok_Parcel_ahead (P := P) (w := w) (base := base) tin T
 have G_Parcel_asides := ok_Parcel_asides (P := P) (w := w) (base := base) tin T
 have G_Parcel_called := ok_Parcel_called (P := P) (w := w) (base := base) tin T
 have G_Parcel_calls := ok_Parcel_calls (P := P) (w := w) (base := base) tin T
 have G_Parcel_choices := ok_Parcel_choices (P := P) (w := w) (base := base) tin T
 have G_Parcel_clashes := ok_Parcel_clashes (P := P) (w := w) (base := base) tin T
 have G_Parcel_deeds := ok_Parcel_deeds (P := P) (w := w) (base := base) tin T
 have G_Parcel_edition := ok_Parcel_edition (P := P) (w := w) (base := base) tin T
 have G_Parcel_files := ok_Parcel_files (P := P) (w := w) (base := base) tin T
 have G_Parcel_needs := ok_Parcel_needs (P := P) (w := w) (base := base) tin T
 have G_Parcel_settings := ok_Parcel_settings (P := P) (w := w) (base := base) tin T
 have G_shown_thing := ok_shown_thing (P := P) (w := w) (base := base) tin T
 refine FnG.framed <| FunD.g T.F_show_parcel sc_show_parcel fun cdv A outer s H E c => ?_
 exact (by refine ds_cons (ds_set 1 sc_show_parcel.nd (de_tup (da_cons (de_meth0 G_Parcel_needs (c.mono (by decide)) T.cl_Parcel T.me_Parcel_needs T.b_Parcel_needs_1 (dv 0)) (da_cons (de_meth0 G_Parcel_ahead (c.mono (by decide)) T.cl_Parcel T.me_Parcel_ahead T.b_Parcel_ahead_1 (dv 0)) (da_cons (de_meth0 G_Parcel_clashes (c.mono (by decide)) T.cl_Parcel T.me_Parcel_clashes T.b_Parcel_clashes_1 (dv 0)) (da_cons (de_meth0 G_Parcel_files (c.mono (by decide)) T.cl_Parcel T.me_Parcel_files T.b_Parcel_files_1 (dv 0)) (da_cons (de_meth0 G_Parcel_settings (c.mono (by decide)) T.cl_Parcel T.me_Parcel_settings T.b_Parcel_settings_1 (dv 0)) (da_cons (de_meth0 G_Parcel_asides (c.mono (by decide)) T.cl_Parcel T.me_Parcel_asides T.b_Parcel_asides_1 (dv 0)) (da_cons (de_meth0 G_Parcel_choices (c.mono (by decide)) T.cl_Parcel T.me_Parcel_choices T.b_Parcel_choices_1 (dv 0)) (da_cons (de_meth0 G_Parcel_calls (c.mono (by decide)) T.cl_Parcel T.me_Parcel_calls T.b_Parcel_calls_1 (dv 0)) (da_cons (de_meth0 G_Parcel_deeds (c.mono (by decide)) T.cl_Parcel T.me_Parcel_deeds T.b_Parcel_deeds_1 (dv 0)) da_nil))))))))))) ?_; refine ds_cons (ds_set 2 sc_show_parcel.nd (de_cel (da_cons (de_joined (.cons dstr (.cons (de_fmt (de_meth0 G_Parcel_called (c.mono (by decide)) T.cl_Parcel T.me_Parcel_called T.b_Parcel_called_1 (dv 0))) (.cons dstr (.cons (de_fmt (de_meth0 G_Parcel_edition (c.mono (by decide)) T.cl_Parcel T.me_Parcel_edition T.b_Parcel_edition_1 (dv 0))) .nil))))) da_nil))) ?_; refine ds_cons (ds_for (passes_of rfl) rfl (di_zipS T.z_zip (da_cons (de_glob T.c_ORDER.2.1 (v := T.c_ORDER.1.2) T.c_ORDER.2.2.1 T.c_ORDER.2.2.2) (da_cons (dv 1) da_nil))) (dg_tup rfl (dgs_cons (dg_name sc_show_parcel.nd) (dgs_cons (dg_name sc_show_parcel.nd) dgs_nil))) (ds_one (ds_expr (de_bm PySem.F.plainAttrs_list PySem.F.slot_list_extend PySem.F.type_list_extend mx_extend (dv 2) (da_cons (de_lc [("thing", 5)] rfl sc_show_parcel.nd (di_any (dv 4)) (blkOk_by (N := ["parcel", "parts", "rows", "word", "things", "thing"]) (sc := defScope s_show_parcel) (by decide +kernel)) (fun s1 H1 C1 cl1 fp1 => (dg_name sc_show_parcel.nd)) (fun s1 H1 C1 cl1 fp1 => dts_nil) (fun s1 H1 C1 cl1 fp1 => (de_call G_shown_thing ((c.blk s1 H1 _ _ fp1).mono (by decide)) T.m_shown_thing T.F_shown_thing.kp T.b_shown_thing_2 (da_cons (dv 3) (da_cons (dv 5) da_nil))))) da_nil))))) ?_; exact (ds_one (ds_ret (de_bm PySem.F.plainAttrs_str PySem.F.slot_str_join PySem.F.type_str_join mx_joinX dstr (da_cons (dv 2) da_nil)))))
end
end DL78
namespace DL78
open PySem PySem.Spec PyProof.Rows L2 DL
/-! the law -/
section
variable {P : Program} {w : World} {K : PySem.W.Frag} {mg : Str → Option Value} {base : Heap}
set_option maxHeartbeats 8000000 in
theorem ok_law (tin : TabIn K base mg) (T : Tops K mg) : FnG P w K mg base 13 T.f_law T.d_law ["_law_script"] F_law := by
 have G_Parcel_eq := ok_Parcel_eq (P := P) (w := w) (base := base) tin T
 have G_law_digits := ok_law_digits (P := P) (w := w) (base := base) tin T
 have G_law_parcel := ok_law_parcel (P := P) (w := w) (base := base) tin T
 have G_law_parts := ok_law_parts (P := P) (w := w) (base := base) tin T
 have G_law_same := ok_law_same (P := P) (w := w) (base := base) tin T
 have G_law_text := ok_law_text (P := P) (w := w) (base := base) tin T
 have G_read_parcel := ok_read_parcel (P := P) (w := w) (base := base) tin T
 have G_show_parcel := ok_show_parcel (P := P) (w := w) (base := base) tin T
 refine FunD.g T.F_law sc_law fun cdv A outer s H E c => ?_
 exact (by refine ds_cons (ds_forT [0, 1, 2, 3, 4, 5, 6, 7, 8, 9] (passes_of rfl) rfl (di_enumX T.z_enumerate (da_cons (de_slice (de_bin opx_addX (dv 0) (de_lst (da_cons dint da_nil))) do_none (do_some dint)) da_nil)) (dg_tup rfl (dgs_cons (dg_name sc_law.nd) (dgs_cons (dg_name sc_law.nd) dgs_nil))) (ds_cons (ds_set 3 sc_law.nd (de_call G_law_digits (c.mono (by decide)) T.m_law_digits T.F_law_digits.kp T.b_law_digits_3 (da_cons (dv 2) (da_cons (dv 1) (da_cons (de_lst (da_cons dint (da_cons dint (da_cons dint (da_cons dint (da_cons dint (da_cons dint (da_cons dint (da_cons dint (da_cons dint (da_cons dint (da_cons dint (da_cons dint (da_cons dint (da_cons dint da_nil))))))))))))))) da_nil)))))
  (by
  refine ds_forget [0, 1, 2, 4, 5, 6, 7, 8, 9] ?_
  exact (by refine ds_cons (ds_set 4 sc_law.nd (de_call G_law_parts (c.mono (by decide)) T.m_law_parts T.F_law_parts.kp T.b_law_parts_1 (da_cons (dv 3) da_nil))) ?_; refine ds_cons (ds_par 8 9 sc_law.nd (da_cons (de_ixX c.room.units (de_lst (da_cons dstr (da_cons dstr (da_cons dstr da_nil)))) (de_ixX c.room.units (dv 3) dint)) (da_cons (de_ixX c.room.units (de_lst (da_cons dint (da_cons dint (da_cons dint da_nil)))) (de_ixX c.room.units (dv 3) dint)) da_nil))) ?_; refine ds_cons (ds_set 5 sc_law.nd (de_call G_law_parcel (c.mono (by decide)) T.m_law_parcel T.F_law_parcel.kp T.b_law_parcel_3 (da_cons (dv 8) (da_cons (dv 9) (da_cons (dv 4) da_nil))))) ?_; refine ds_cons (ds_set 6 sc_law.nd (de_call G_law_text (c.mono (by decide)) T.m_law_text T.F_law_text.kp T.b_law_text_3 (da_cons (dv 8) (da_cons (dv 9) (da_cons (dv 4) da_nil))))) ?_; refine ds_cons (ds_if (dt_cmp (opx_if _ (opx_neOwn G_Parcel_eq (c.mono (by decide)) T.b_Parcel_eq_2 T.ne_Parcel T.mo_Parcel T.eq_Parcel T.fn_Parcel_eq T.nf_Parcel) (opx_neX c.room.units)) (de_call G_show_parcel (c.mono (by decide)) T.m_show_parcel T.F_show_parcel.kp T.b_show_parcel_1 (da_cons (dv 5) da_nil)) (dv 6)) (ds_one (ds_ret dbool)) ds_nil) ?_; exact (ds_one (ds_for (passes_of rfl) rfl (di_any (de_lst (da_cons (de_call G_read_parcel (c.mono (by decide)) T.m_read_parcel T.F_read_parcel.kp T.b_read_parcel_1 (da_cons (dv 6) da_nil)) (da_cons (de_call G_read_parcel (c.mono (by decide)) T.m_read_parcel T.F_read_parcel.kp T.b_read_parcel_1 (da_cons (de_call G_show_parcel (c.mono (by decide)) T.m_show_parcel T.F_show_parcel.kp T.b_show_parcel_1 (da_cons (dv 5) da_nil)) da_nil)) da_nil)))) (dg_name sc_law.nd) (ds_one (ds_if (dt_w (dw_or (dt_cmp (opx_if _ (opx_neOwn G_Parcel_eq (c.mono (by decide)) T.b_Parcel_eq_2 T.ne_Parcel T.mo_Parcel T.eq_Parcel T.fn_Parcel_eq T.nf_Parcel) (opx_neX c.room.units)) (dv 7) (dv 5)) (dw_or (dt_not (dtest_val (de_call G_law_same (c.mono (by decide)) T.m_law_same T.F_law_same.kp T.b_law_same_4 (da_cons (dv 7) (da_cons (dv 8) (da_cons (dv 9) (da_cons (dv 4) da_nil))))))) (dw_or1 (dt_cmp (opx_if _ (opx_neOwn G_Parcel_eq (c.mono (by decide)) T.b_Parcel_eq_2 T.ne_Parcel T.mo_Parcel T.eq_Parcel T.fn_Parcel_eq T.nf_Parcel) (opx_neX c.room.units)) (de_call G_show_parcel (c.mono (by decide)) T.m_show_parcel T.F_show_parcel.kp T.b_show_parcel_1 (da_cons (dv 7) da_nil)) (dv 6)))))) (ds_one (ds_ret dbool)) ds_nil)))))))) ?_; exact (ds_one (ds_ret dbool)))
end
end DL78
namespace DL78
open PySem PySem.Spec PyProof.Rows L2 DL
theorem exL_at {K : PySem.W.Frag} (h : exB K = true) (i : Nat) {b : Bool} (e : (exL K)[i]? = some b) : b = true := List.all_eq_true.mp h b (List.mem_of_getElem? e)
theorem hob_eq (s : PySem.W.SharedT) : hob s = hk.obs s.abs := obsY_eq (HandSHeadRun.getT_eq s)
noncomputable def tops {w : World} {K : PySem.W.Frag} {h : Heap} {mg : Str → Option Value} (X : K.In h) (G : h.Ns mainGlobals mg) (c : He.SaysX hfa hfn [] lamTf exB w h K) : Tops K mg where
 m_Parcel := (congrArg mg nC_Parcel).symm.trans (He.glo_ok X G (c.t.d.fact 0 (f := .glo (nmC cC_Parcel)) rfl))
 cl_Parcel := He.cls_ok (c.t.d.fact 1 (f := .cls (nmC cC_Parcel)) rfl)
 f_Parcel_eq := He.fAd K (nmC cC_Parcel, some "__eq__")
 d_Parcel_eq := Classical.choose (c.t.d.def_ 0 (d := h_Parcel_eq) rfl)
 F_Parcel_eq := Classical.choose_spec (c.t.d.def_ 0 (d := h_Parcel_eq) rfl)
 fn_Parcel_eq := (He.meth_ok (c.t.d.fact 2 (f := .meth (nmC cC_Parcel) "__eq__") rfl)).fn
 f_law_digits := He.fAd K ("_law_digits", none)
 d_law_digits := Classical.choose (c.t.d.def_ 1 (d := h_law_digits) rfl)
 F_law_digits := Classical.choose_spec (c.t.d.def_ 1 (d := h_law_digits) rfl)
 m_law_digits := He.glo_ok X G (c.t.d.fact 3 (f := .glo "_law_digits") rfl)
 f_is_name := He.fAd K ("is_name", none)
 d_is_name := Classical.choose (c.t.d.def_ 2 (d := h_is_name) rfl)
 F_is_name := Classical.choose_spec (c.t.d.def_ 2 (d := h_is_name) rfl)
 m_is_name := He.glo_ok X G (c.t.d.fact 4 (f := .glo "is_name") rfl)
 mv_is_name := (He.glo_ok X G (c.t.d.fact 4 (f := .glo "is_name") rfl)).trans (congrArg (fun z => some (Value.ref (He.ga K z))) nv_is_name.symm)
 fv_is_name := congrArg (He.ga K) nv_is_name.symm
 f_is_path := He.fAd K ("is_path", none)
 d_is_path := Classical.choose (c.t.d.def_ 3 (d := h_is_path) rfl)
 F_is_path := Classical.choose_spec (c.t.d.def_ 3 (d := h_is_path) rfl)
 m_is_path := He.glo_ok X G (c.t.d.fact 5 (f := .glo "is_path") rfl)
 f_is_tuple := He.fAd K ("is_tuple", none)
 d_is_tuple := Classical.choose (c.t.d.def_ 4 (d := h_is_tuple) rfl)
 F_is_tuple := Classical.choose_spec (c.t.d.def_ 4 (d := h_is_tuple) rfl)
 m_is_tuple := He.glo_ok X G (c.t.d.fact 6 (f := .glo "is_tuple") rfl)
 f_is_aside := He.fAd K ("is_aside", none)
 d_is_aside := Classical.choose (c.t.d.def_ 5 (d := h_is_aside) rfl)
 F_is_aside := Classical.choose_spec (c.t.d.def_ 5 (d := h_is_aside) rfl)
 m_is_aside := He.glo_ok X G (c.t.d.fact 7 (f := .glo "is_aside") rfl)
 mv_is_aside := (He.glo_ok X G (c.t.d.fact 7 (f := .glo "is_aside") rfl)).trans (congrArg (fun z => some (Value.ref (He.ga K z))) nv_is_aside.symm)
 fv_is_aside := congrArg (He.ga K) nv_is_aside.symm
 f_is_whole := He.fAd K ("is_whole", none)
 d_is_whole := Classical.choose (c.t.d.def_ 6 (d := h_is_whole) rfl)
 F_is_whole := Classical.choose_spec (c.t.d.def_ 6 (d := h_is_whole) rfl)
 m_is_whole := He.glo_ok X G (c.t.d.fact 8 (f := .glo "is_whole") rfl)
 f_is_from := He.fAd K ("is_from", none)
 d_is_from := Classical.choose (c.t.d.def_ 7 (d := h_is_from) rfl)
 F_is_from := Classical.choose_spec (c.t.d.def_ 7 (d := h_is_from) rfl)
 m_is_from := He.glo_ok X G (c.t.d.fact 9 (f := .glo "is_from") rfl)
 f_is_choice := He.fAd K ("is_choice", none)
 d_is_choice := Classical.choose (c.t.d.def_ 8 (d := h_is_choice) rfl)
 F_is_choice := Classical.choose_spec (c.t.d.def_ 8 (d := h_is_choice) rfl)
 m_is_choice := He.glo_ok X G (c.t.d.fact 10 (f := .glo "is_choice") rfl)
 mv_is_choice := (He.glo_ok X G (c.t.d.fact 10 (f := .glo "is_choice") rfl)).trans (congrArg (fun z => some (Value.ref (He.ga K z))) nv_is_choice.symm)
 fv_is_choice := congrArg (He.ga K) nv_is_choice.symm
 f_is_edition := He.fAd K ("is_edition", none)
 d_is_edition := Classical.choose (c.t.d.def_ 9 (d := h_is_edition) rfl)
 F_is_edition := Classical.choose_spec (c.t.d.def_ 9 (d := h_is_edition) rfl)
 m_is_edition := He.glo_ok X G (c.t.d.fact 11 (f := .glo "is_edition") rfl)
 f_is_clash := He.fAd K ("is_clash", none)
 d_is_clash := Classical.choose (c.t.d.def_ 10 (d := h_is_clash) rfl)
 F_is_clash := Classical.choose_spec (c.t.d.def_ 10 (d := h_is_clash) rfl)
 m_is_clash := He.glo_ok X G (c.t.d.fact 12 (f := .glo "is_clash") rfl)
 mv_is_clash := (He.glo_ok X G (c.t.d.fact 12 (f := .glo "is_clash") rfl)).trans (congrArg (fun z => some (Value.ref (He.ga K z))) nv_is_clash.symm)
 fv_is_clash := congrArg (He.ga K) nv_is_clash.symm
 f_is_deed := He.fAd K ("is_deed", none)
 d_is_deed := Classical.choose (c.t.d.def_ 11 (d := h_is_deed) rfl)
 F_is_deed := Classical.choose_spec (c.t.d.def_ 11 (d := h_is_deed) rfl)
 m_is_deed := He.glo_ok X G (c.t.d.fact 13 (f := .glo "is_deed") rfl)
 mv_is_deed := (He.glo_ok X G (c.t.d.fact 13 (f := .glo "is_deed") rfl)).trans (congrArg (fun z => some (Value.ref (He.ga K z))) nv_is_deed.symm)
 fv_is_deed := congrArg (He.ga K) nv_is_deed.symm
 f_is_worth := He.fAd K ("is_worth", none)
 d_is_worth := Classical.choose (c.t.d.def_ 12 (d := h_is_worth) rfl)
 F_is_worth := Classical.choose_spec (c.t.d.def_ 12 (d := h_is_worth) rfl)
 m_is_worth := He.glo_ok X G (c.t.d.fact 14 (f := .glo "is_worth") rfl)
 f_is_file := He.fAd K ("is_file", none)
 d_is_file := Classical.choose (c.t.d.def_ 13 (d := h_is_file) rfl)
 F_is_file := Classical.choose_spec (c.t.d.def_ 13 (d := h_is_file) rfl)
 m_is_file := He.glo_ok X G (c.t.d.fact 15 (f := .glo "is_file") rfl)
 mv_is_file := (He.glo_ok X G (c.t.d.fact 15 (f := .glo "is_file") rfl)).trans (congrArg (fun z => some (Value.ref (He.ga K z))) nv_is_file.symm)
 fv_is_file := congrArg (He.ga K) nv_is_file.symm
 f_is_option := He.fAd K ("is_option", none)
 d_is_option := Classical.choose (c.t.d.def_ 14 (d := h_is_option) rfl)
 F_is_option := Classical.choose_spec (c.t.d.def_ 14 (d := h_is_option) rfl)
 m_is_option := He.glo_ok X G (c.t.d.fact 16 (f := .glo "is_option") rfl)
 mv_is_option := (He.glo_ok X G (c.t.d.fact 16 (f := .glo "is_option") rfl)).trans (congrArg (fun z => some (Value.ref (He.ga K z))) nv_is_option.symm)
 fv_is_option := congrArg (He.ga K) nv_is_option.symm
 f_are_all := He.fAd K ("are_all", none)
 d_are_all := Classical.choose (c.t.d.def_ 15 (d := h_are_all) rfl)
 F_are_all := Classical.choose_spec (c.t.d.def_ 15 (d := h_are_all) rfl)
 m_are_all := He.glo_ok X G (c.t.d.fact 17 (f := .glo "are_all") rfl)
 f_heads_of := He.fAd K ("heads_of", none)
 d_heads_of := Classical.choose (c.t.d.def_ 16 (d := h_heads_of) rfl)
 F_heads_of := Classical.choose_spec (c.t.d.def_ 16 (d := h_heads_of) rfl)
 m_heads_of := He.glo_ok X G (c.t.d.fact 18 (f := .glo "heads_of") rfl)
 f_is_need := He.fAd K ("is_need", none)
 d_is_need := Classical.choose (c.t.d.def_ 17 (d := h_is_need) rfl)
 F_is_need := Classical.choose_spec (c.t.d.def_ 17 (d := h_is_need) rfl)
 m_is_need := He.glo_ok X G (c.t.d.fact 19 (f := .glo "is_need") rfl)
 mv_is_need := (He.glo_ok X G (c.t.d.fact 19 (f := .glo "is_need") rfl)).trans (congrArg (fun z => some (Value.ref (He.ga K z))) nv_is_need.symm)
 fv_is_need := congrArg (He.ga K) nv_is_need.symm
 f_rise := He.fAd K ("rise", none)
 d_rise := Classical.choose (c.t.d.def_ 18 (d := h_rise) rfl)
 F_rise := Classical.choose_spec (c.t.d.def_ 18 (d := h_rise) rfl)
 m_rise := He.glo_ok X G (c.t.d.fact 20 (f := .glo "rise") rfl)
 f_are_rising := He.fAd K ("are_rising", none)
 d_are_rising := Classical.choose (c.t.d.def_ 19 (d := h_are_rising) rfl)
 F_are_rising := Classical.choose_spec (c.t.d.def_ 19 (d := h_are_rising) rfl)
 m_are_rising := He.glo_ok X G (c.t.d.fact 21 (f := .glo "are_rising") rfl)
 f_are_asides := He.fAd K ("are_asides", none)
 d_are_asides := Classical.choose (c.t.d.def_ 20 (d := h_are_asides) rfl)
 F_are_asides := Classical.choose_spec (c.t.d.def_ 20 (d := h_are_asides) rfl)
 m_are_asides := He.glo_ok X G (c.t.d.fact 22 (f := .glo "are_asides") rfl)
 f_are_calls := He.fAd K ("are_calls", none)
 d_are_calls := Classical.choose (c.t.d.def_ 21 (d := h_are_calls) rfl)
 F_are_calls := Classical.choose_spec (c.t.d.def_ 21 (d := h_are_calls) rfl)
 m_are_calls := He.glo_ok X G (c.t.d.fact 23 (f := .glo "are_calls") rfl)
 f_are_choices := He.fAd K ("are_choices", none)
 d_are_choices := Classical.choose (c.t.d.def_ 22 (d := h_are_choices) rfl)
 F_are_choices := Classical.choose_spec (c.t.d.def_ 22 (d := h_are_choices) rfl)
 m_are_choices := He.glo_ok X G (c.t.d.fact 24 (f := .glo "are_choices") rfl)
 f_are_needs := He.fAd K ("are_needs", none)
 d_are_needs := Classical.choose (c.t.d.def_ 23 (d := h_are_needs) rfl)
 F_are_needs := Classical.choose_spec (c.t.d.def_ 23 (d := h_are_needs) rfl)
 m_are_needs := He.glo_ok X G (c.t.d.fact 25 (f := .glo "are_needs") rfl)
 f_Parcel_init := He.fAd K (nmC cC_Parcel, some "__init__")
 d_Parcel_init := Classical.choose (c.t.d.def_ 24 (d := h_Parcel_init) rfl)
 F_Parcel_init := Classical.choose_spec (c.t.d.def_ 24 (d := h_Parcel_init) rfl)
 fn_Parcel_init := (He.meth_ok (c.t.d.fact 26 (f := .meth (nmC cC_Parcel) "__init__") rfl)).fn
 e_Parcel_init_needs := holdV_ref (exL_at c.more 0 rfl)
 e_Parcel_init_ahead := holdV_ref (exL_at c.more 1 rfl)
 e_Parcel_init_clashes := holdV_ref (exL_at c.more 2 rfl)
 e_Parcel_init_files := holdV_ref (exL_at c.more 3 rfl)
 e_Parcel_init_settings := holdV_ref (exL_at c.more 4 rfl)
 e_Parcel_init_asides := holdV_ref (exL_at c.more 5 rfl)
 e_Parcel_init_choices := holdV_ref (exL_at c.more 6 rfl)
 e_Parcel_init_calls := holdV_ref (exL_at c.more 7 rfl)
 e_Parcel_init_deeds := holdV_ref (exL_at c.more 8 rfl)
 f_law_parcel := He.fAd K ("_law_parcel", none)
 d_law_parcel := Classical.choose (c.t.d.def_ 25 (d := h_law_parcel) rfl)
 F_law_parcel := Classical.choose_spec (c.t.d.def_ 25 (d := h_law_parcel) rfl)
 m_law_parcel := He.glo_ok X G (c.t.d.fact 27 (f := .glo "_law_parcel") rfl)
 f_law_needs := He.fAd K ("_law_needs", none)
 d_law_needs := Classical.choose (c.t.d.def_ 26 (d := h_law_needs) rfl)
 F_law_needs := Classical.choose_spec (c.t.d.def_ 26 (d := h_law_needs) rfl)
 m_law_needs := He.glo_ok X G (c.t.d.fact 28 (f := .glo "_law_needs") rfl)
 f_law_paths := He.fAd K ("_law_paths", none)
 d_law_paths := Classical.choose (c.t.d.def_ 27 (d := h_law_paths) rfl)
 F_law_paths := Classical.choose_spec (c.t.d.def_ 27 (d := h_law_paths) rfl)
 m_law_paths := He.glo_ok X G (c.t.d.fact 29 (f := .glo "_law_paths") rfl)
 f_law_parts := He.fAd K ("_law_parts", none)
 d_law_parts := Classical.choose (c.t.d.def_ 28 (d := h_law_parts) rfl)
 F_law_parts := Classical.choose_spec (c.t.d.def_ 28 (d := h_law_parts) rfl)
 m_law_parts := He.glo_ok X G (c.t.d.fact 30 (f := .glo "_law_parts") rfl)
 f_Parcel_ahead := He.fAd K (nmC cC_Parcel, some "ahead")
 d_Parcel_ahead := Classical.choose (c.t.d.def_ 29 (d := h_Parcel_ahead) rfl)
 F_Parcel_ahead := Classical.choose_spec (c.t.d.def_ 29 (d := h_Parcel_ahead) rfl)
 fn_Parcel_ahead := (He.meth_ok (c.t.d.fact 31 (f := .meth (nmC cC_Parcel) "ahead") rfl)).fn
 f_Parcel_asides := He.fAd K (nmC cC_Parcel, some "asides")
 d_Parcel_asides := Classical.choose (c.t.d.def_ 30 (d := h_Parcel_asides) rfl)
 F_Parcel_asides := Classical.choose_spec (c.t.d.def_ 30 (d := h_Parcel_asides) rfl)
 fn_Parcel_asides := (He.meth_ok (c.t.d.fact 32 (f := .meth (nmC cC_Parcel) "asides") rfl)).fn
 f_Parcel_called := He.fAd K (nmC cC_Parcel, some "called")
 d_Parcel_called := Classical.choose (c.t.d.def_ 31 (d := h_Parcel_called) rfl)
 F_Parcel_called := Classical.choose_spec (c.t.d.def_ 31 (d := h_Parcel_called) rfl)
 fn_Parcel_called := (He.meth_ok (c.t.d.fact 33 (f := .meth (nmC cC_Parcel) "called") rfl)).fn
 f_Parcel_calls := He.fAd K (nmC cC_Parcel, some "calls")
 d_Parcel_calls := Classical.choose (c.t.d.def_ 32 (d := h_Parcel_calls) rfl)
 F_Parcel_calls := Classical.choose_spec (c.t.d.def_ 32 (d := h_Parcel_calls) rfl)
 fn_Parcel_calls := (He.meth_ok (c.t.d.fact 34 (f := .meth (nmC cC_Parcel) "calls") rfl)).fn
 f_Parcel_choices := He.fAd K (nmC cC_Parcel, some "choices")
 d_Parcel_choices := Classical.choose (c.t.d.def_ 33 (d := h_Parcel_choices) rfl)
 F_Parcel_choices := Classical.choose_spec (c.t.d.def_ 33 (d := h_Parcel_choices) rfl)
 fn_Parcel_choices := (He.meth_ok (c.t.d.fact 35 (f := .meth (nmC cC_Parcel) "choices") rfl)).fn
 f_Parcel_clashes := He.fAd K (nmC cC_Parcel, some "clashes")
 d_Parcel_clashes := Classical.choose (c.t.d.def_ 34 (d := h_Parcel_clashes) rfl)
 F_Parcel_clashes := Classical.choose_spec (c.t.d.def_ 34 (d := h_Parcel_clashes) rfl)
 fn_Parcel_clashes := (He.meth_ok (c.t.d.fact 36 (f := .meth (nmC cC_Parcel) "clashes") rfl)).fn
 f_Parcel_deeds := He.fAd K (nmC cC_Parcel, some "deeds")
 d_Parcel_deeds := Classical.choose (c.t.d.def_ 35 (d := h_Parcel_deeds) rfl)
 F_Parcel_deeds := Classical.choose_spec (c.t.d.def_ 35 (d := h_Parcel_deeds) rfl)
 fn_Parcel_deeds := (He.meth_ok (c.t.d.fact 37 (f := .meth (nmC cC_Parcel) "deeds") rfl)).fn
 f_Parcel_edition := He.fAd K (nmC cC_Parcel, some "edition")
 d_Parcel_edition := Classical.choose (c.t.d.def_ 36 (d := h_Parcel_edition) rfl)
 F_Parcel_edition := Classical.choose_spec (c.t.d.def_ 36 (d := h_Parcel_edition) rfl)
 fn_Parcel_edition := (He.meth_ok (c.t.d.fact 38 (f := .meth (nmC cC_Parcel) "edition") rfl)).fn
 f_Parcel_files := He.fAd K (nmC cC_Parcel, some "files")
 d_Parcel_files := Classical.choose (c.t.d.def_ 37 (d := h_Parcel_files) rfl)
 F_Parcel_files := Classical.choose_spec (c.t.d.def_ 37 (d := h_Parcel_files) rfl)
 fn_Parcel_files := (He.meth_ok (c.t.d.fact 39 (f := .meth (nmC cC_Parcel) "files") rfl)).fn
 f_Parcel_needs := He.fAd K (nmC cC_Parcel, some "needs")
 d_Parcel_needs := Classical.choose (c.t.d.def_ 38 (d := h_Parcel_needs) rfl)
 F_Parcel_needs := Classical.choose_spec (c.t.d.def_ 38 (d := h_Parcel_needs) rfl)
 fn_Parcel_needs := (He.meth_ok (c.t.d.fact 40 (f := .meth (nmC cC_Parcel) "needs") rfl)).fn
 f_Parcel_settings := He.fAd K (nmC cC_Parcel, some "settings")
 d_Parcel_settings := Classical.choose (c.t.d.def_ 39 (d := h_Parcel_settings) rfl)
 F_Parcel_settings := Classical.choose_spec (c.t.d.def_ 39 (d := h_Parcel_settings) rfl)
 fn_Parcel_settings := (He.meth_ok (c.t.d.fact 41 (f := .meth (nmC cC_Parcel) "settings") rfl)).fn
 f_law_same := He.fAd K ("_law_same", none)
 d_law_same := Classical.choose (c.t.d.def_ 40 (d := h_law_same) rfl)
 F_law_same := Classical.choose_spec (c.t.d.def_ 40 (d := h_law_same) rfl)
 m_law_same := He.glo_ok X G (c.t.d.fact 42 (f := .glo "_law_same") rfl)
 f_law_row := He.fAd K ("_law_row", none)
 d_law_row := Classical.choose (c.t.d.def_ 41 (d := h_law_row) rfl)
 F_law_row := Classical.choose_spec (c.t.d.def_ 41 (d := h_law_row) rfl)
 m_law_row := He.glo_ok X G (c.t.d.fact 43 (f := .glo "_law_row") rfl)
 f_law_text := He.fAd K ("_law_text", none)
 d_law_text := Classical.choose (c.t.d.def_ 42 (d := h_law_text) rfl)
 F_law_text := Classical.choose_spec (c.t.d.def_ 42 (d := h_law_text) rfl)
 m_law_text := He.glo_ok X G (c.t.d.fact 44 (f := .glo "_law_text") rfl)
 f_number_of := He.fAd K ("number_of", none)
 d_number_of := Classical.choose (c.t.d.def_ 43 (d := h_number_of) rfl)
 F_number_of := Classical.choose_spec (c.t.d.def_ 43 (d := h_number_of) rfl)
 m_number_of := He.glo_ok X G (c.t.d.fact 45 (f := .glo "number_of") rfl)
 mv_number_of := (He.glo_ok X G (c.t.d.fact 45 (f := .glo "number_of") rfl)).trans (congrArg (fun z => some (Value.ref (He.ga K z))) nv_number_of.symm)
 fv_number_of := congrArg (He.ga K) nv_number_of.symm
 f_first_of := He.fAd K ("first_of", none)
 d_first_of := Classical.choose (c.t.d.def_ 44 (d := h_first_of) rfl)
 F_first_of := Classical.choose_spec (c.t.d.def_ 44 (d := h_first_of) rfl)
 m_first_of := He.glo_ok X G (c.t.d.fact 46 (f := .glo "first_of") rfl)
 f_look_at_text := He.fAd K ("look_at_text", none)
 d_look_at_text := Classical.choose (c.t.d.def_ 45 (d := h_look_at_text) rfl)
 F_look_at_text := Classical.choose_spec (c.t.d.def_ 45 (d := h_look_at_text) rfl)
 m_look_at_text := He.glo_ok X G (c.t.d.fact 47 (f := .glo "look_at_text") rfl)
 f_name_of := He.fAd K ("name_of", none)
 d_name_of := Classical.choose (c.t.d.def_ 46 (d := h_name_of) rfl)
 F_name_of := Classical.choose_spec (c.t.d.def_ 46 (d := h_name_of) rfl)
 m_name_of := He.glo_ok X G (c.t.d.fact 48 (f := .glo "name_of") rfl)
 mv_name_of := (He.glo_ok X G (c.t.d.fact 48 (f := .glo "name_of") rfl)).trans (congrArg (fun z => some (Value.ref (He.ga K z))) nv_name_of.symm)
 fv_name_of := congrArg (He.ga K) nv_name_of.symm
 f_option_of := He.fAd K ("option_of", none)
 d_option_of := Classical.choose (c.t.d.def_ 47 (d := h_option_of) rfl)
 F_option_of := Classical.choose_spec (c.t.d.def_ 47 (d := h_option_of) rfl)
 m_option_of := He.glo_ok X G (c.t.d.fact 49 (f := .glo "option_of") rfl)
 f_path_of := He.fAd K ("path_of", none)
 d_path_of := Classical.choose (c.t.d.def_ 48 (d := h_path_of) rfl)
 F_path_of := Classical.choose_spec (c.t.d.def_ 48 (d := h_path_of) rfl)
 m_path_of := He.glo_ok X G (c.t.d.fact 50 (f := .glo "path_of") rfl)
 mv_path_of := (He.glo_ok X G (c.t.d.fact 50 (f := .glo "path_of") rfl)).trans (congrArg (fun z => some (Value.ref (He.ga K z))) nv_path_of.symm)
 fv_path_of := congrArg (He.ga K) nv_path_of.symm
 f_when_of := He.fAd K ("when_of", none)
 d_when_of := Classical.choose (c.t.d.def_ 49 (d := h_when_of) rfl)
 F_when_of := Classical.choose_spec (c.t.d.def_ 49 (d := h_when_of) rfl)
 m_when_of := He.glo_ok X G (c.t.d.fact 51 (f := .glo "when_of") rfl)
 mv_when_of := (He.glo_ok X G (c.t.d.fact 51 (f := .glo "when_of") rfl)).trans (congrArg (fun z => some (Value.ref (He.ga K z))) nv_when_of.symm)
 fv_when_of := congrArg (He.ga K) nv_when_of.symm
 f_thing_of := He.fAd K ("thing_of", none)
 d_thing_of := Classical.choose (c.t.d.def_ 50 (d := h_thing_of) rfl)
 F_thing_of := Classical.choose_spec (c.t.d.def_ 50 (d := h_thing_of) rfl)
 m_thing_of := He.glo_ok X G (c.t.d.fact 52 (f := .glo "thing_of") rfl)
 f_read_parcel := He.fAd K ("read_parcel", none)
 d_read_parcel := Classical.choose (c.t.d.def_ 51 (d := h_read_parcel) rfl)
 F_read_parcel := Classical.choose_spec (c.t.d.def_ 51 (d := h_read_parcel) rfl)
 m_read_parcel := He.glo_ok X G (c.t.d.fact 53 (f := .glo "read_parcel") rfl)
 f_shown_thing := He.fAd K ("shown_thing", none)
 d_shown_thing := Classical.choose (c.t.d.def_ 52 (d := h_shown_thing) rfl)
 F_shown_thing := Classical.choose_spec (c.t.d.def_ 52 (d := h_shown_thing) rfl)
 m_shown_thing := He.glo_ok X G (c.t.d.fact 54 (f := .glo "shown_thing") rfl)
 f_show_parcel := He.fAd K ("show_parcel", none)
 d_show_parcel := Classical.choose (c.t.d.def_ 53 (d := h_show_parcel) rfl)
 F_show_parcel := Classical.choose_spec (c.t.d.def_ 53 (d := h_show_parcel) rfl)
 m_show_parcel := He.glo_ok X G (c.t.d.fact 55 (f := .glo "show_parcel") rfl)
 f_law := He.fAd K ("law", none)
 d_law := Classical.choose (c.t.d.def_ 54 (d := h_law) rfl)
 F_law := Classical.choose_spec (c.t.d.def_ 54 (d := h_law) rfl)
 m_law := He.glo_ok X G (c.t.d.fact 56 (f := .glo "law") rfl)
 f_NoText_init := He.fAd K (nmC cC_NoText, some "__init__")
 d_NoText_init := Classical.choose (c.t.d.def_ 55 (d := h_NoText_init) rfl)
 F_NoText_init := Classical.choose_spec (c.t.d.def_ 55 (d := h_NoText_init) rfl)
 m_NoParcel := (congrArg mg nC_NoParcel).symm.trans (He.glo_ok X G (c.t.d.fact 57 (f := .glo (nmC cC_NoParcel)) rfl))
 m_NoText := (congrArg mg nC_NoText).symm.trans (He.glo_ok X G (c.t.d.fact 58 (f := .glo (nmC cC_NoText)) rfl))
 m_WholeError := (congrArg mg nC_WholeError).symm.trans (He.glo_ok X G (c.t.d.fact 59 (f := .glo (nmC cC_WholeError)) rfl))
 oex_NoText := oexB_ok (exL_at c.more 9 rfl)
 ini_NoText := oiniB_ok (exL_at c.more 10 rfl)
 exc_NoText := excB_ok (exL_at c.more 11 rfl)
 xf_NoText_row := of_decide_eq_true (exL_at c.more 12 rfl)
 gm_WholeError := (exL_at c.more 13 rfl)
 exm_NoParcel := exmB_ok (exL_at c.more 14 rfl)
 me_Parcel_ahead := He.meth_ok (c.t.d.fact 31 (f := .meth (nmC cC_Parcel) "ahead") rfl)
 me_Parcel_asides := He.meth_ok (c.t.d.fact 32 (f := .meth (nmC cC_Parcel) "asides") rfl)
 me_Parcel_called := He.meth_ok (c.t.d.fact 33 (f := .meth (nmC cC_Parcel) "called") rfl)
 me_Parcel_calls := He.meth_ok (c.t.d.fact 34 (f := .meth (nmC cC_Parcel) "calls") rfl)
 me_Parcel_choices := He.meth_ok (c.t.d.fact 35 (f := .meth (nmC cC_Parcel) "choices") rfl)
 me_Parcel_clashes := He.meth_ok (c.t.d.fact 36 (f := .meth (nmC cC_Parcel) "clashes") rfl)
 me_Parcel_deeds := He.meth_ok (c.t.d.fact 37 (f := .meth (nmC cC_Parcel) "deeds") rfl)
 me_Parcel_edition := He.meth_ok (c.t.d.fact 38 (f := .meth (nmC cC_Parcel) "edition") rfl)
 me_Parcel_files := He.meth_ok (c.t.d.fact 39 (f := .meth (nmC cC_Parcel) "files") rfl)
 me_Parcel_needs := He.meth_ok (c.t.d.fact 40 (f := .meth (nmC cC_Parcel) "needs") rfl)
 me_Parcel_settings := He.meth_ok (c.t.d.fact 41 (f := .meth (nmC cC_Parcel) "settings") rfl)
 mk_Parcel := He.mkr_ok (c.t.d.fact 60 (f := .mkr (nmC cC_Parcel)) rfl)
 kt_Parcel := ktB_ok (exL_at c.more 15 rfl)
 isc := List.forall_mem_cons.mpr ⟨isCB_ok (He.cls_ok (c.t.d.fact 1 (f := .cls (nmC cC_Parcel)) rfl)) (exL_at c.more 16 rfl), fun _ h => absurd h List.not_mem_nil⟩
 at_own_edition := List.forall_mem_cons.mpr ⟨⟨He.cls_ok (c.t.d.fact 1 (f := .cls (nmC cC_Parcel)) rfl), He.noat_ok (c.t.d.fact 61 (f := .noat (nmC cC_Parcel) "own_edition") rfl)⟩, fun _ h => absurd h List.not_mem_nil⟩
 at_own_name := List.forall_mem_cons.mpr ⟨⟨He.cls_ok (c.t.d.fact 1 (f := .cls (nmC cC_Parcel)) rfl), He.noat_ok (c.t.d.fact 62 (f := .noat (nmC cC_Parcel) "own_name") rfl)⟩, fun _ h => absurd h List.not_mem_nil⟩
 at_own_parts := List.forall_mem_cons.mpr ⟨⟨He.cls_ok (c.t.d.fact 1 (f := .cls (nmC cC_Parcel)) rfl), He.noat_ok (c.t.d.fact 63 (f := .noat (nmC cC_Parcel) "own_parts") rfl)⟩, fun _ h => absurd h List.not_mem_nil⟩
 eq_Parcel := of_decide_eq_true (exL_at c.more 17 rfl)
 ne_Parcel := of_decide_eq_true (exL_at c.more 18 rfl)
 mo_Parcel := of_decide_eq_true (exL_at c.more 19 rfl)
 nf_Parcel := nfB_ok (exL_at c.more 20 rfl)
 m_FORMS := (congrArg mg nt_FORMS).symm.trans (He.glo_ok X G (c.t.d.fact 64 (f := .glo (nmC ct_FORMS)) rfl))
 tb_FORMS := tabKB_ok (exL_at c.more 21 rfl)
 m_READERS := (congrArg mg nt_READERS).symm.trans (He.glo_ok X G (c.t.d.fact 65 (f := .glo (nmC ct_READERS)) rfl))
 tb_READERS := tabKB_ok (exL_at c.more 22 rfl)
 tx_ORDER := tupKB_ok X G (exL_at c.more 23 rfl)
 tk_BLANK_DASH := tok2B_ok X G (exL_at c.more 24 rfl)
 tk_DASH_BLANK := tok2B_ok X G (exL_at c.more 25 rfl)
 z_abs := He.free_ok X G (c.t.d.fact 66 (f := .free "abs") rfl)
 z_all := He.free_ok X G (c.t.d.fact 67 (f := .free "all") rfl)
 z_any := He.free_ok X G (c.t.d.fact 68 (f := .free "any") rfl)
 z_bool := He.free_ok X G (c.t.d.fact 69 (f := .free "bool") rfl)
 z_enumerate := He.free_ok X G (c.t.d.fact 70 (f := .free "enumerate") rfl)
 z_int := He.free_ok X G (c.t.d.fact 71 (f := .free "int") rfl)
 z_isinstance := He.free_ok X G (c.t.d.fact 72 (f := .free "isinstance") rfl)
 z_len := He.free_ok X G (c.t.d.fact 73 (f := .free "len") rfl)
 z_range := He.free_ok X G (c.t.d.fact 74 (f := .free "range") rfl)
 z_repr := He.free_ok X G (c.t.d.fact 75 (f := .free "repr") rfl)
 z_set := He.free_ok X G (c.t.d.fact 76 (f := .free "set") rfl)
 z_sorted := He.free_ok X G (c.t.d.fact 77 (f := .free "sorted") rfl)
 z_str := He.free_ok X G (c.t.d.fact 78 (f := .free "str") rfl)
 z_tuple := He.free_ok X G (c.t.d.fact 79 (f := .free "tuple") rfl)
 z_zip := He.free_ok X G (c.t.d.fact 80 (f := .free "zip") rfl)
 c_LETTERS := ⟨Classical.choose (He.str_ok X G (c.t.d.fact 81 (f := .str "LETTERS" "abcdefghijklmnopqrstuvwxyz") rfl)), Classical.choose_spec (He.str_ok X G (c.t.d.fact 81 (f := .str "LETTERS" "abcdefghijklmnopqrstuvwxyz") rfl))⟩
 c_MOST_BY := ⟨Classical.choose (He.int_ok X G (c.t.d.fact 82 (f := .int "MOST_BY" 99) rfl)), Classical.choose_spec (He.int_ok X G (c.t.d.fact 82 (f := .int "MOST_BY" 99) rfl))⟩
 c_MOST_EDITION := ⟨Classical.choose (He.int_ok X G (c.t.d.fact 83 (f := .int "MOST_EDITION" 999) rfl)), Classical.choose_spec (He.int_ok X G (c.t.d.fact 83 (f := .int "MOST_EDITION" 999) rfl))⟩
 c_MOST_FIGURES := ⟨Classical.choose (He.int_ok X G (c.t.d.fact 84 (f := .int "MOST_FIGURES" 10) rfl)), Classical.choose_spec (He.int_ok X G (c.t.d.fact 84 (f := .int "MOST_FIGURES" 10) rfl))⟩
 c_MOST_NAME := ⟨Classical.choose (He.int_ok X G (c.t.d.fact 85 (f := .int "MOST_NAME" 8) rfl)), Classical.choose_spec (He.int_ok X G (c.t.d.fact 85 (f := .int "MOST_NAME" 8) rfl))⟩
 c_MOST_NAMES := ⟨Classical.choose (He.int_ok X G (c.t.d.fact 86 (f := .int "MOST_NAMES" 3) rfl)), Classical.choose_spec (He.int_ok X G (c.t.d.fact 86 (f := .int "MOST_NAMES" 3) rfl))⟩
 c_MOST_OPTIONS := ⟨Classical.choose (He.int_ok X G (c.t.d.fact 87 (f := .int "MOST_OPTIONS" 3) rfl)), Classical.choose_spec (He.int_ok X G (c.t.d.fact 87 (f := .int "MOST_OPTIONS" 3) rfl))⟩
 c_MOST_RANK := ⟨Classical.choose (He.int_ok X G (c.t.d.fact 88 (f := .int "MOST_RANK" 99) rfl)), Classical.choose_spec (He.int_ok X G (c.t.d.fact 88 (f := .int "MOST_RANK" 99) rfl))⟩
 c_MOST_WORTH := ⟨Classical.choose (He.int_ok X G (c.t.d.fact 89 (f := .int "MOST_WORTH" 1000000000) rfl)), Classical.choose_spec (He.int_ok X G (c.t.d.fact 89 (f := .int "MOST_WORTH" 1000000000) rfl))⟩
 c_ORDER := gloB_sub X G (exL_at c.more 26 rfl)
 c_WHENS := gloB_sub X G (exL_at c.more 27 rfl)
end DL78
namespace DL78
open PySem PySem.Spec PyProof.Rows L2 DL
def paths8 : List Str := ["a", "a/b", "abcdefgh/abcdefgh/abcdefgh", "bin/ls", "q", "r", "t/u", "x/y/z"]
def tuned4 : List Str := ["etc", "etc/a", "w/x/y", "zz"]
def led3 : List Str := ["bin/ls", "far", "k/l"]
def picks3 : List Str := ["edit", "sh", "view/it"]
def calls4 : List Str := ["b", "cc", "fonts", "menus"]
def deeds4 : List D := [.tup [.str "ahead put", .str "n", .int 99], .tup [.str "behind set", .str "zzzzzzzz", .int (-99)], .tup [.str "ahead loose", .str "m", .int 0], .tup [.str "ahead put", .str "n", .int (-1)]]
def opt (i j : Nat) : D := .tup [.str (["b", "cc", "zzzzzzzz"].getD (i % 3) ""), .int ([1, 7, 999].getD (j % 3) 0)]
/-- one need: begun at i, so many options, low from a -/
def need (i m a : Nat) : D := .tup ((List.range m).map fun o => opt (i + o) (o + a))
def needsL (a b : Nat) : List D := (List.range a).map fun i => need i (1 + (b + i) % 3) a
def TN : List D := (List.range 5).flatMap fun a => (List.range 3).flatMap fun b => needsL a b
def clash (k d : Nat) : D := .tup [.str (["a", "bb", "ccc"].getD k ""), .int (1 + k : Nat), .int (if d % 2 = 0 then (1 + k : Nat) else 999)]
def clashL (d : Nat) : List D := (List.range (d % 5 % 4)).map fun k => clash k d
def fileD (k j : Nat) : D := .tup [.str (paths8.getD k ""), .int ([0, 1, 1000000000, 77].getD (j % 4) 0)]
def fileL (n b : Nat) : List D := (List.range n).map fun k => fileD k (k + b)
def setD (k : Nat) : D := .tup [.str (tuned4.getD k ""), .int ([5, 1000000000].getD (k % 2) 0)]
def setL (n : Nat) : List D := (List.range n).map setD
def asideD (k : Nat) : D := .tup [.str (led3.getD k ""), .str (["led/a", "led/b", "led/c"].getD k "")]
def asideL (n : Nat) : List D := (List.range n).map asideD
def choiceD (k q : Nat) : D := .tup [.str (picks3.getD k ""), .str (paths8.getD q ""), .int ([0, 99, 5].getD k 0)]
def choiceL (n m : Nat) : List D := (List.range (if m = 0 then 0 else n)).map fun k => choiceD k (k % m)
def callL (n : Nat) : List D := (calls4.take n).map .str
def deedL (n : Nat) : List D := deeds4.take n
def pick1 (r : R D) : Str := match r with
 | .ok (.str s) _ => s
 | _ => ""
/-- the row that shows a thing -/
def rowS (w : Str) (t : D) : Str := pick1 (F_shown_thing [.str w, t] [])
def tag (w : Str) (l : List D) : List (Str × D) := l.map fun t => (w, t)
def fams : List (Str × D) := tag "needs" TN ++ (tag "ahead" TN ++ (tag "clashes" ((List.range 5).flatMap clashL) ++ (tag "file" ((List.range 8).flatMap fun k => (List.range 4).map (fileD k)) ++ (tag "setting" (setL 4) ++ (tag "aside" (asideL 3) ++ (tag "choice" ((List.range 3).flatMap fun k => (List.range 8).map (choiceD k)) ++ (tag "call" (callL 4) ++ tag "deed" (deedL 4))))))))
theorem fam_shown : fams.map (fun p => F_shown_thing [.str p.1, p.2] []) = fams.map fun p => .ok (.str (rowS p.1 p.2)) [] := by kernel_rfl
theorem fam_law : fams.map (fun p => F_law_row [.str p.1, p.2] []) = fams.map fun p => .ok (.str (rowS p.1 p.2)) [] := by kernel_rfl
theorem fam_thing : fams.map (fun p => F_thing_of [.str (rowS p.1 p.2)] []) = fams.map fun p => .ok (.tup [.str p.1, p.2]) [] := by kernel_rfl
theorem fam_row : (fams.all fun p => decide ((10 : Nat) ∉ (rowS p.1 p.2).cps.toList) && (decide ((rowS p.1 p.2).length ≤ 100) && D.closedL 0 [p.2])) = true := by decide +kernel
end DL78
namespace DL78
open PySem PySem.Spec PyProof.Rows L2 DL
theorem bools_map {α : Type} (f : α → Bool) : ∀ xs : List α, bools (xs.map fun x => .bl (f x)) = some (xs.map f)
 | [] => rfl
 | x :: xs => by simp [bools, bools_map f xs]
theorem any_map {α : Type} (f : α → Bool) (xs : List α) (μ : Mu) : bAny [.lst (xs.map fun x => .bl (f x))] μ = .ok (.bl (xs.any f)) μ := by
 simp [bAny, bools_map]
theorem filt_true (ds : List D) : List.filter (fun _ => true) ds = ds := List.filter_eq_self.mpr fun _ _ => rfl
theorem strs_closed (ss : List Str) (n : Nat) : D.closedL n (ss.map .str) = true := closed_of fun x hx => by
 obtain ⟨s, _, rfl⟩ := List.mem_map.mp hx
 simp [D.closed]
theorem in_strs (x : Str) (ss : List Str) (μ : Mu) : dIn (.str x) (.lst (ss.map .str)) μ = .ok (.bl (decide (x ∈ ss))) μ := by
 have key : inL (fun d => eqD 20 d (.str x)) (ss.map .str) = some (decide (x ∈ ss)) := by
  induction ss with
  | nil => simp [inL]
  | cons a ss ih =>
   simp only [List.map_cons, inL, ih]
   simp [eqD, D.kd, eqV]
   by_cases e : a = x
   ·simp [e]
   ·have e2 : ¬ x = a := fun z => e z.symm
    simp [e, e2]
 simp [dIn, inD, seqD, key]
theorem closed_at {xs : List D} (h : D.closedL 0 xs = true) : ∀ x ∈ xs, x.closed 0 = true := by
 induction xs with
 | nil => intro x hx; cases hx
 | cons a zs ih =>
  intro z hz
  simp [D.closedL] at h
  rcases List.mem_cons.mp hz with rfl | hz
  ·exact h.1
  ·exact ih h.2 z hz
def objP (n e : D) (ps : List D) : D := .obj cC_Parcel [("own_name", n), ("own_edition", e), ("own_parts", .tup ps)]
theorem at_i {xs : List D} {x : D} (k : Nat) (h : xs[k]? = some x) : atI xs (k : Int) = some x := by
 have hk := List.getElem?_eq_some_iff.mp h
 simp [atI, ixN, hk.1]
 exact hk.2
theorem fr_any {F : List D → Mu → R D} {ds : List D} {d : D} (hc : D.closedL 0 ds = true) (h : framed F ds [] = .ok d []) (hd : d.closed 0 = true) (μ : Mu) : framed F ds μ = .ok d μ := by
 unfold framed at h ⊢
 rw [if_pos hc] at h ⊢
 cases e : F ds [] with
 | ok d' μ1 =>
  rw [e] at h
  dsimp only at h ⊢
  by_cases c : d'.closed 0 = true
  ·rw [if_pos c] at h ⊢
   cases h
   rfl
  ·rw [if_neg c] at h
   cases h
   exact absurd hd c
 | ex c fs μ1 =>
  rw [e] at h
  dsimp only at h
  by_cases c : D.closedF 0 fs = true
  ·rw [if_pos c] at h
   cases h
  ·rw [if_neg c] at h
   cases h
 | bad =>
  rw [e] at h
  cases h

theorem at_name (n e : D) (ps : List D) (μ : Mu) : atD [cC_Parcel] "own_name" μ (objP n e ps) = some n := by kernel_rfl
theorem at_edition (n e : D) (ps : List D) (μ : Mu) : atD [cC_Parcel] "own_edition" μ (objP n e ps) = some e := by kernel_rfl
theorem at_parts (n e : D) (ps : List D) (μ : Mu) : atD [cC_Parcel] "own_parts" μ (objP n e ps) = some (.tup ps) := by kernel_rfl
theorem ins_obj (n e : D) (ps : List D) (μ : Mu) : insD μ (objP n e ps) = some (cC_Parcel, [(("own_name" : Str), n), (("own_edition" : Str), e), (("own_parts" : Str), .tup ps)]) := rfl
theorem obj_closed {n e : D} {ps : List D} (h : D.closedL 0 (n :: e :: ps) = true) : D.closedL 0 [objP n e ps] = true := by
 simp only [D.closedL, objP, D.closed, D.closedF] at h ⊢
 simpa using h
theorem lk_called (n e p : D) : (([("own_name", n), ("own_edition", e), ("own_parts", p)] : List (Str × D)).lookup ("called" : Str)).isNone = true := by kernel_rfl
theorem lk_edition (n e p : D) : (([("own_name", n), ("own_edition", e), ("own_parts", p)] : List (Str × D)).lookup ("edition" : Str)).isNone = true := by kernel_rfl
theorem lk_needs (n e p : D) : (([("own_name", n), ("own_edition", e), ("own_parts", p)] : List (Str × D)).lookup ("needs" : Str)).isNone = true := by kernel_rfl
theorem lk_ahead (n e p : D) : (([("own_name", n), ("own_edition", e), ("own_parts", p)] : List (Str × D)).lookup ("ahead" : Str)).isNone = true := by kernel_rfl
theorem lk_clashes (n e p : D) : (([("own_name", n), ("own_edition", e), ("own_parts", p)] : List (Str × D)).lookup ("clashes" : Str)).isNone = true := by kernel_rfl
theorem lk_files (n e p : D) : (([("own_name", n), ("own_edition", e), ("own_parts", p)] : List (Str × D)).lookup ("files" : Str)).isNone = true := by kernel_rfl
theorem lk_settings (n e p : D) : (([("own_name", n), ("own_edition", e), ("own_parts", p)] : List (Str × D)).lookup ("settings" : Str)).isNone = true := by kernel_rfl
theorem lk_asides (n e p : D) : (([("own_name", n), ("own_edition", e), ("own_parts", p)] : List (Str × D)).lookup ("asides" : Str)).isNone = true := by kernel_rfl
theorem lk_choices (n e p : D) : (([("own_name", n), ("own_edition", e), ("own_parts", p)] : List (Str × D)).lookup ("choices" : Str)).isNone = true := by kernel_rfl
theorem lk_calls (n e p : D) : (([("own_name", n), ("own_edition", e), ("own_parts", p)] : List (Str × D)).lookup ("calls" : Str)).isNone = true := by kernel_rfl
theorem lk_deeds (n e p : D) : (([("own_name", n), ("own_edition", e), ("own_parts", p)] : List (Str × D)).lookup ("deeds" : Str)).isNone = true := by kernel_rfl
section
variable {n e p0 p1 p2 p3 p4 p5 p6 p7 p8 : D} (h : D.closedL 0 [n, e, p0, p1, p2, p3, p4, p5, p6, p7, p8] = true)
include h
theorem called_ok (μ : Mu) : F_Parcel_called [objP n e [p0, p1, p2, p3, p4, p5, p6, p7, p8]] μ = .ok n μ := fr_ok (μ1 := []) (obj_closed h) (by simp [g_Parcel_called, startD, at_name]) (closed_at h n (by simp))
theorem edition_ok (μ : Mu) : F_Parcel_edition [objP n e [p0, p1, p2, p3, p4, p5, p6, p7, p8]] μ = .ok e μ := fr_ok (μ1 := []) (obj_closed h) (by simp [g_Parcel_edition, startD, at_edition]) (closed_at h e (by simp))
theorem needs_ok (μ : Mu) : F_Parcel_needs [objP n e [p0, p1, p2, p3, p4, p5, p6, p7, p8]] μ = .ok p0 μ := by
 have a : atI [p0, p1, p2, p3, p4, p5, p6, p7, p8] (0 : Int) = some p0 := at_i 0 rfl
 exact fr_ok (μ1 := []) (obj_closed h) (by simp [g_Parcel_needs, startD, at_parts, a, ixX_tup]) (closed_at h p0 (by simp))
theorem ahead_ok (μ : Mu) : F_Parcel_ahead [objP n e [p0, p1, p2, p3, p4, p5, p6, p7, p8]] μ = .ok p1 μ := by
 have a : atI [p0, p1, p2, p3, p4, p5, p6, p7, p8] (1 : Int) = some p1 := at_i 1 rfl
 exact fr_ok (μ1 := []) (obj_closed h) (by simp [g_Parcel_ahead, startD, at_parts, a, ixX_tup]) (closed_at h p1 (by simp))
theorem clashes_ok (μ : Mu) : F_Parcel_clashes [objP n e [p0, p1, p2, p3, p4, p5, p6, p7, p8]] μ = .ok p2 μ := by
 have a : atI [p0, p1, p2, p3, p4, p5, p6, p7, p8] (2 : Int) = some p2 := at_i 2 rfl
 exact fr_ok (μ1 := []) (obj_closed h) (by simp [g_Parcel_clashes, startD, at_parts, a, ixX_tup]) (closed_at h p2 (by simp))
theorem files_ok (μ : Mu) : F_Parcel_files [objP n e [p0, p1, p2, p3, p4, p5, p6, p7, p8]] μ = .ok p3 μ := by
 have a : atI [p0, p1, p2, p3, p4, p5, p6, p7, p8] (3 : Int) = some p3 := at_i 3 rfl
 exact fr_ok (μ1 := []) (obj_closed h) (by simp [g_Parcel_files, startD, at_parts, a, ixX_tup]) (closed_at h p3 (by simp))
theorem settings_ok (μ : Mu) : F_Parcel_settings [objP n e [p0, p1, p2, p3, p4, p5, p6, p7, p8]] μ = .ok p4 μ := by
 have a : atI [p0, p1, p2, p3, p4, p5, p6, p7, p8] (4 : Int) = some p4 := at_i 4 rfl
 exact fr_ok (μ1 := []) (obj_closed h) (by simp [g_Parcel_settings, startD, at_parts, a, ixX_tup]) (closed_at h p4 (by simp))
theorem asides_ok (μ : Mu) : F_Parcel_asides [objP n e [p0, p1, p2, p3, p4, p5, p6, p7, p8]] μ = .ok p5 μ := by
 have a : atI [p0, p1, p2, p3, p4, p5, p6, p7, p8] (5 : Int) = some p5 := at_i 5 rfl
 exact fr_ok (μ1 := []) (obj_closed h) (by simp [g_Parcel_asides, startD, at_parts, a, ixX_tup]) (closed_at h p5 (by simp))
theorem choices_ok (μ : Mu) : F_Parcel_choices [objP n e [p0, p1, p2, p3, p4, p5, p6, p7, p8]] μ = .ok p6 μ := by
 have a : atI [p0, p1, p2, p3, p4, p5, p6, p7, p8] (6 : Int) = some p6 := at_i 6 rfl
 exact fr_ok (μ1 := []) (obj_closed h) (by simp [g_Parcel_choices, startD, at_parts, a, ixX_tup]) (closed_at h p6 (by simp))
theorem calls_ok (μ : Mu) : F_Parcel_calls [objP n e [p0, p1, p2, p3, p4, p5, p6, p7, p8]] μ = .ok p7 μ := by
 have a : atI [p0, p1, p2, p3, p4, p5, p6, p7, p8] (7 : Int) = some p7 := at_i 7 rfl
 exact fr_ok (μ1 := []) (obj_closed h) (by simp [g_Parcel_calls, startD, at_parts, a, ixX_tup]) (closed_at h p7 (by simp))
theorem deeds_ok (μ : Mu) : F_Parcel_deeds [objP n e [p0, p1, p2, p3, p4, p5, p6, p7, p8]] μ = .ok p8 μ := by
 have a : atI [p0, p1, p2, p3, p4, p5, p6, p7, p8] (8 : Int) = some p8 := at_i 8 rfl
 exact fr_ok (μ1 := []) (obj_closed h) (by simp [g_Parcel_deeds, startD, at_parts, a, ixX_tup]) (closed_at h p8 (by simp))
theorem called_m {ρ : En} {i : Nat} (hρ : ρ[i]? = some (some (objP n e [p0, p1, p2, p3, p4, p5, p6, p7, p8]))) (μ : Mu) : dmeth cC_Parcel "called" F_Parcel_called [] (dvar i) aNil ρ μ = .ok n μ := by
 simp only [ap_meth, ap_var, hρ, R.bind_ok, ins_obj]
 rw [if_pos ⟨trivial, lk_called _ _ _⟩]
 simp [called_ok h]
theorem edition_m {ρ : En} {i : Nat} (hρ : ρ[i]? = some (some (objP n e [p0, p1, p2, p3, p4, p5, p6, p7, p8]))) (μ : Mu) : dmeth cC_Parcel "edition" F_Parcel_edition [] (dvar i) aNil ρ μ = .ok e μ := by
 simp only [ap_meth, ap_var, hρ, R.bind_ok, ins_obj]
 rw [if_pos ⟨trivial, lk_edition _ _ _⟩]
 simp [edition_ok h]
theorem needs_m {ρ : En} {i : Nat} (hρ : ρ[i]? = some (some (objP n e [p0, p1, p2, p3, p4, p5, p6, p7, p8]))) (μ : Mu) : dmeth cC_Parcel "needs" F_Parcel_needs [] (dvar i) aNil ρ μ = .ok p0 μ := by
 simp only [ap_meth, ap_var, hρ, R.bind_ok, ins_obj]
 rw [if_pos ⟨trivial, lk_needs _ _ _⟩]
 simp [needs_ok h]
theorem ahead_m {ρ : En} {i : Nat} (hρ : ρ[i]? = some (some (objP n e [p0, p1, p2, p3, p4, p5, p6, p7, p8]))) (μ : Mu) : dmeth cC_Parcel "ahead" F_Parcel_ahead [] (dvar i) aNil ρ μ = .ok p1 μ := by
 simp only [ap_meth, ap_var, hρ, R.bind_ok, ins_obj]
 rw [if_pos ⟨trivial, lk_ahead _ _ _⟩]
 simp [ahead_ok h]
theorem clashes_m {ρ : En} {i : Nat} (hρ : ρ[i]? = some (some (objP n e [p0, p1, p2, p3, p4, p5, p6, p7, p8]))) (μ : Mu) : dmeth cC_Parcel "clashes" F_Parcel_clashes [] (dvar i) aNil ρ μ = .ok p2 μ := by
 simp only [ap_meth, ap_var, hρ, R.bind_ok, ins_obj]
 rw [if_pos ⟨trivial, lk_clashes _ _ _⟩]
 simp [clashes_ok h]
theorem files_m {ρ : En} {i : Nat} (hρ : ρ[i]? = some (some (objP n e [p0, p1, p2, p3, p4, p5, p6, p7, p8]))) (μ : Mu) : dmeth cC_Parcel "files" F_Parcel_files [] (dvar i) aNil ρ μ = .ok p3 μ := by
 simp only [ap_meth, ap_var, hρ, R.bind_ok, ins_obj]
 rw [if_pos ⟨trivial, lk_files _ _ _⟩]
 simp [files_ok h]
theorem settings_m {ρ : En} {i : Nat} (hρ : ρ[i]? = some (some (objP n e [p0, p1, p2, p3, p4, p5, p6, p7, p8]))) (μ : Mu) : dmeth cC_Parcel "settings" F_Parcel_settings [] (dvar i) aNil ρ μ = .ok p4 μ := by
 simp only [ap_meth, ap_var, hρ, R.bind_ok, ins_obj]
 rw [if_pos ⟨trivial, lk_settings _ _ _⟩]
 simp [settings_ok h]
theorem asides_m {ρ : En} {i : Nat} (hρ : ρ[i]? = some (some (objP n e [p0, p1, p2, p3, p4, p5, p6, p7, p8]))) (μ : Mu) : dmeth cC_Parcel "asides" F_Parcel_asides [] (dvar i) aNil ρ μ = .ok p5 μ := by
 simp only [ap_meth, ap_var, hρ, R.bind_ok, ins_obj]
 rw [if_pos ⟨trivial, lk_asides _ _ _⟩]
 simp [asides_ok h]
theorem choices_m {ρ : En} {i : Nat} (hρ : ρ[i]? = some (some (objP n e [p0, p1, p2, p3, p4, p5, p6, p7, p8]))) (μ : Mu) : dmeth cC_Parcel "choices" F_Parcel_choices [] (dvar i) aNil ρ μ = .ok p6 μ := by
 simp only [ap_meth, ap_var, hρ, R.bind_ok, ins_obj]
 rw [if_pos ⟨trivial, lk_choices _ _ _⟩]
 simp [choices_ok h]
theorem calls_m {ρ : En} {i : Nat} (hρ : ρ[i]? = some (some (objP n e [p0, p1, p2, p3, p4, p5, p6, p7, p8]))) (μ : Mu) : dmeth cC_Parcel "calls" F_Parcel_calls [] (dvar i) aNil ρ μ = .ok p7 μ := by
 simp only [ap_meth, ap_var, hρ, R.bind_ok, ins_obj]
 rw [if_pos ⟨trivial, lk_calls _ _ _⟩]
 simp [calls_ok h]
theorem deeds_m {ρ : En} {i : Nat} (hρ : ρ[i]? = some (some (objP n e [p0, p1, p2, p3, p4, p5, p6, p7, p8]))) (μ : Mu) : dmeth cC_Parcel "deeds" F_Parcel_deeds [] (dvar i) aNil ρ μ = .ok p8 μ := by
 simp only [ap_meth, ap_var, hρ, R.bind_ok, ins_obj]
 rw [if_pos ⟨trivial, lk_deeds _ _ _⟩]
 simp [deeds_ok h]
end
/-! the parts -/
def names3 : List Str := ["w", "who", "abcdefgh"]
def years3 : List Int := [1, 42, 999]
def T : R D := .ok (.bl true) []
theorem i_name : names3.map (fun n => F_is_name [.str n] []) = names3.map fun _ => T := by kernel_rfl
theorem i_year : years3.map (fun e => F_is_edition [.int e] []) = years3.map fun _ => T := by kernel_rfl
theorem i_clash : ((List.range 5).map fun d => F_are_all_v2 [.tup (clashL d), .int 4, dfn cv_is_clash] []) = (List.range 5).map fun _ => T := by kernel_rfl
theorem i_clashH : ((List.range 5).map fun d => F_heads_of [.tup (clashL d)] []) = (List.range 5).map fun d => .ok (.lst (((["a", "bb", "ccc"] : List Str).take (d % 5 % 4)).map .str)) [] := by kernel_rfl
theorem i_sets : ((List.range 5).map fun n => F_are_rising [.tup (setL n), .int 8, dfn cv_is_file] []) = (List.range 5).map fun _ => T := by kernel_rfl
theorem i_filesH (b : Nat) : ((List.range 9).map fun n => F_heads_of [.tup (fileL n b)] []) = (List.range 9).map fun n => .ok (.lst ((paths8.take n).map .str)) [] := by kernel_rfl
theorem i_setsH : ((List.range 5).map fun n => F_heads_of [.tup (setL n)] []) = (List.range 5).map fun n => .ok (.lst ((tuned4.take n).map .str)) [] := by kernel_rfl
theorem i_calls : ((List.range 5).map fun n => F_are_calls [.tup (callL n)] []) = (List.range 5).map fun _ => T := by kernel_rfl
theorem i_deeds : ((List.range 5).map fun n => F_are_all_v2 [.tup (deedL n), .int 4, dfn cv_is_deed] []) = (List.range 5).map fun _ => T := by kernel_rfl
end DL78
namespace DL78
open PySem PySem.Spec PyProof.Rows L2 DL
mutual
theorem cl_up (n : Nat) : ∀ d : D, d.closed 0 = true → d.closed n = true
 | .non, _ => by simp [D.closed]
 | .bl _, _ => by simp [D.closed]
 | .int _, _ => by simp [D.closed]
 | .str _, _ => by simp [D.closed]
 | .cst _, _ => by simp [D.closed]
 | .glo _, _ => by simp [D.closed]
 | .hdl l, h => by simp [D.closed] at h
 | .tup xs, h => by simp only [D.closed] at h ⊢; exact clL_up n xs h
 | .lst xs, h => by simp only [D.closed] at h ⊢; exact clL_up n xs h
 | .obj _ fs, h => by simp only [D.closed] at h ⊢; exact clF_up n fs h
 | .exc _ fs, h => by simp only [D.closed] at h ⊢; exact clF_up n fs h
 | .dtc _ xs, h => by simp only [D.closed] at h ⊢; exact clL_up n xs h
theorem clL_up (n : Nat) : ∀ xs : List D, D.closedL 0 xs = true → D.closedL n xs = true
 | [], _ => by simp [D.closedL]
 | x :: xs, h => by
  simp only [D.closedL, Bool.and_eq_true] at h ⊢
  exact ⟨cl_up n x h.1, clL_up n xs h.2⟩
theorem clF_up (n : Nat) : ∀ fs : List (Str × D), D.closedF 0 fs = true → D.closedF n fs = true
 | [], _ => by simp [D.closedF]
 | (_, x) :: fs, h => by
  simp only [D.closedF, Bool.and_eq_true] at h ⊢
  exact ⟨cl_up n x h.1, clF_up n fs h.2⟩
end
theorem trunc_same {n : Nat} {d : D} {μ : Mu} (h : μ.length ≤ n) : trunc n d μ = .ok d μ := by
 unfold trunc
 rw [List.take_of_length_le h]
 split <;> rfl
theorem init_okG {n : Str} {e : Int} {p0 p1 p2 p3 p4 p5 p6 p7 p8 : D} {hs H3 H4 : List Str} (f1 : ∀ μ, F_is_name [.str n] μ = .ok (.bl true) μ) (f2 : ∀ μ, F_is_edition [.int e] μ = .ok (.bl true) μ) (f3 : ∀ μ, F_are_needs [.str n, p0] μ = .ok (.bl true) μ) (f4 : ∀ μ, F_are_needs [.str n, p1] μ = .ok (.bl true) μ)
  (f5 : ∀ μ, F_are_all_v2 [p2, .int 4, dfn cv_is_clash] μ = .ok (.bl true) μ) (f6 : ∀ μ, F_heads_of [p2] μ = .ok (.lst (hs.map .str)) μ) (f7 : n ∉ hs) (f8 : ∀ μ, F_are_rising [p3, .int 8, dfn cv_is_file] μ = .ok (.bl true) μ) (f9 : ∀ μ, F_are_rising [p4, .int 8, dfn cv_is_file] μ = .ok (.bl true) μ)
  (g3 : ∀ μ, F_heads_of [p3] μ = .ok (.lst (H3.map .str)) μ) (g4 : ∀ μ, F_heads_of [p4] μ = .ok (.lst (H4.map .str)) μ) (gd : ∀ x ∈ H4, x ∉ H3) (f10 : ∀ μ, F_are_asides [p5, p3, p4] μ = .ok (.bl true) μ) (f11 : ∀ μ, F_are_choices [p6, p3, p4] μ = .ok (.bl true) μ) (f12 : ∀ μ, F_are_calls [p7] μ = .ok (.bl true) μ) (f13 : ∀ μ, F_are_all_v2 [p8, .int 4, dfn cv_is_deed] μ = .ok (.bl true) μ)
  (μ : Mu) :
  F_Parcel_init [.hdl μ.length, .str n, .int e, p0, p1, p2, p3, p4, p5, p6, p7, p8] (μ ++ [.ins cC_Parcel [] []]) = .ok .non (μ ++ [.ins cC_Parcel ["own_name", "own_edition", "own_parts"] [.str n, .int e, .tup [p0, p1, p2, p3, p4, p5, p6, p7, p8]]]) := by
 have lc : ∀ (l0 : Nat) μ, lcD (.nm 12) tyes (dbin dIn (dvar 12) (dcall F_heads_of [] (aCons (dvar 6) aNil))) [some (.hdl l0), some (.str n), some (.int e), some p0, some p1, some p2, some p3, some p4, some p5, some p6, some p7, some p8, none] (H4.map .str) μ = .ok ((H4.map D.str).map fun _ => .bl false) μ := by
  intro l0 μ
  rw [lc_pure (fun d => [some (.hdl l0), some (.str n), some (.int e), some p0, some p1, some p2, some p3, some p4, some p5, some p6, some p7, some p8, some d]) (fun _ => true) (fun _ => .bl false) (xs := H4.map .str)]
  ·rw [filt_true]
  ·intro q hq
   obtain ⟨z, hz, rfl⟩ := List.mem_map.mp hq
   exact ⟨by simp, by simp, fun _ => by simp [g3, in_strs, gd z hz]⟩
 have an := fun μ => any_map (fun _ => false) (H4.map D.str) μ
 unfold F_Parcel_init
 rw [framed_open (open_hdl _ _)]
 have body : ∃ ρ, g_Parcel_init (startD 13 [.hdl μ.length, .str n, .int e, p0, p1, p2, p3, p4, p5, p6, p7, p8]) (μ ++ [.ins cC_Parcel [] []]) = .nx ρ (μ ++ [.ins cC_Parcel ["own_name", "own_edition", "own_parts"] [.str n, .int e, .tup [p0, p1, p2, p3, p4, p5, p6, p7, p8]]]) := by
  refine ⟨[some (.hdl μ.length), some (.str n), some (.int e), some p0, some p1, some p2, some p3, some p4, some p5, some p6, some p7, some p8, none], ?_⟩
  simp only [g_Parcel_init, startD]
  simp [f1, f2, f3, f4, f5, f6, in_strs, f7, f8, f9, g4, wipeD]
  simp only [lc, R.bind_ok, an]
  simp [f10, f11, f12, f13, gsetat, putP, List.getElem?_append, List.set_append]
  rfl
 obtain ⟨ρ, body⟩ := body
 unfold callF
 rw [body]
 dsimp only
 exact trunc_same (by simp)
theorem make_okG {n : Str} {e : Int} {p0 p1 p2 p3 p4 p5 p6 p7 p8 : D} {μ : Mu} (fi : F_Parcel_init [.hdl μ.length, .str n, .int e, p0, p1, p2, p3, p4, p5, p6, p7, p8] (μ ++ [.ins cC_Parcel [] []]) = .ok .non (μ ++ [.ins cC_Parcel ["own_name", "own_edition", "own_parts"] [.str n, .int e, .tup [p0, p1, p2, p3, p4, p5, p6, p7, p8]]]))
  (hc : D.closedL 0 [p0, p1, p2, p3, p4, p5, p6, p7, p8] = true) (hμ : closedMu μ.length μ = true) : makeO cC_Parcel F_Parcel_init (fun x => K_b_Parcel_init_3_needs_ahead_clashes_files_settings_asides_choices_calls_deeds (x :: [.str n, .int e]) [p0, p1, p2, p3, p4, p5, p6, p7, p8]) μ = .ok (objP (.str n) (.int e) [p0, p1, p2, p3, p4, p5, p6, p7, p8]) μ := by
 have k : K_b_Parcel_init_3_needs_ahead_clashes_files_settings_asides_choices_calls_deeds (.hdl μ.length :: [.str n, .int e]) [p0, p1, p2, p3, p4, p5, p6, p7, p8] = [.hdl μ.length, .str n, .int e, p0, p1, p2, p3, p4, p5, p6, p7, p8] := rfl
 unfold makeO
 dsimp only
 rw [k, fi]
 simp only [List.getElem?_append_right (Nat.le_refl _), Nat.sub_self, List.getElem?_cons_zero]
 rw [app_set]
 refine trunc_app (ex := [.gone]) ?_ hμ
 show D.closed _ _ = true
 refine cl_up _ _ ?_
 simp only [List.zip_cons_cons, List.zip_nil_right, D.closed, D.closedF, Bool.true_and, Bool.and_true]
 exact hc
end DL78
namespace DL78
open PySem PySem.Spec PyProof.Rows L2 DL
theorem at_fam {α β : Type} {l : List α} {f g : α → β} (h : l.map f = l.map g) {x : α} (hx : x ∈ l) : f x = g x := List.map_inj_left.mp h x hx
def two (m n : Nat) : List (Nat × Nat) := (List.range m).flatMap fun a => (List.range n).map fun b => (a, b)
def three (m n k : Nat) : List (Nat × Nat × Nat) := (List.range m).flatMap fun a => (two n k).map fun q => (a, q)
theorem mem2 {m n a b : Nat} (ha : a < m) (hb : b < n) : (a, b) ∈ two m n := List.mem_flatMap.mpr ⟨a, List.mem_range.mpr ha, List.mem_map.mpr ⟨b, List.mem_range.mpr hb, rfl⟩⟩
theorem mem3 {m n k a b c : Nat} (ha : a < m) (hb : b < n) (hc : c < k) : (a, b, c) ∈ three m n k := List.mem_flatMap.mpr ⟨a, List.mem_range.mpr ha, List.mem_map.mpr ⟨(b, c), mem2 hb hc, rfl⟩⟩
def trip : List (Str × Nat × Nat) := names3.flatMap fun n => (two 5 3).map fun q => (n, q)
theorem memt {n : Str} {a b : Nat} (hn : n ∈ names3) (ha : a < 5) (hb : b < 3) : (n, a, b) ∈ trip := List.mem_flatMap.mpr ⟨n, hn, List.mem_map.mpr ⟨(a, b), mem2 ha hb, rfl⟩⟩
theorem i_needs' : trip.map (fun q => F_are_needs [.str q.1, .tup (needsL q.2.1 q.2.2)] []) = trip.map fun _ => T := by kernel_rfl
theorem i_files' : (two 9 4).map (fun q => F_are_rising [.tup (fileL q.1 q.2), .int 8, dfn cv_is_file] []) = (two 9 4).map fun _ => T := by kernel_rfl
theorem i_aside (b : Nat) : (three 4 9 5).map (fun q => F_are_asides [.tup (asideL q.1), .tup (fileL q.2.1 b), .tup (setL q.2.2)] []) = (three 4 9 5).map fun _ => T := by kernel_rfl
theorem i_choice (b : Nat) : (three 4 9 5).map (fun q => F_are_choices [.tup (choiceL q.1 q.2.1), .tup (fileL q.2.1 b), .tup (setL q.2.2)] []) = (three 4 9 5).map fun _ => T := by kernel_rfl
theorem c_needs : ((two 5 3).all fun q => D.closedL 0 (needsL q.1 q.2)) = true := by decide +kernel
theorem c_clash : ((List.range 5).all fun d => D.closedL 0 (clashL d)) = true := by decide +kernel
theorem c_files : ((two 9 4).all fun q => D.closedL 0 (fileL q.1 q.2)) = true := by decide +kernel
theorem c_rest : ((List.range 5).all fun n => D.closedL 0 (setL n) && (D.closedL 0 (asideL n) && (D.closedL 0 (callL n) && D.closedL 0 (deedL n)))) = true := by decide +kernel
theorem c_choice : ((two 4 9).all fun q => D.closedL 0 (choiceL q.1 q.2)) = true := by decide +kernel
theorem apart_all : ((two 9 5).all fun q => (tuned4.take q.2).all fun x => decide (x ∉ paths8.take q.1)) = true := by decide +kernel
theorem names_out : (names3.all fun n => decide (n ∉ (["a", "bb", "ccc"] : List Str))) = true := by decide +kernel
/-- the digits -/
structure Dg where
 (a0 a1 a2 a3 a4 a5 a6 a7 a8 a9 a10 a11 a12 a13 : Nat)
structure Dg.Ok (d : Dg) : Prop where
 h0 : d.a0 < 5
 h1 : d.a1 < 3
 h2 : d.a2 < 5
 h3 : d.a3 < 3
 h4 : d.a4 < 9
 h5 : d.a5 < 5
 h6 : d.a6 < 4
 h7 : d.a7 < 4
 h8 : d.a8 < 5
 h9 : d.a9 < 4
 h10 : d.a10 < 5
 h11 : d.a11 < 5
 h12 : d.a12 < 3
 h13 : d.a13 < 3
def Dg.vec (d : Dg) : List D := [.int (d.a0 : Nat), .int (d.a1 : Nat), .int (d.a2 : Nat), .int (d.a3 : Nat), .int (d.a4 : Nat), .int (d.a5 : Nat), .int (d.a6 : Nat), .int (d.a7 : Nat), .int (d.a8 : Nat), .int (d.a9 : Nat), .int (d.a10 : Nat), .int (d.a11 : Nat), .int (d.a12 : Nat), .int (d.a13 : Nat)]
def Dg.ts (d : Dg) : List (List D) := [needsL d.a0 d.a1, needsL d.a2 d.a3, clashL d.a8, fileL d.a4 d.a9, setL d.a5, asideL d.a6, choiceL d.a7 d.a4, callL d.a10, deedL d.a11]
def Dg.name (d : Dg) : Str := names3.getD d.a12 ""
def Dg.year (d : Dg) : Int := years3.getD d.a13 0
abbrev Dg.P (d : Dg) : D := objP (.str d.name) (.int d.year) (d.ts.map .tup)
theorem all_at {α : Type} {l : List α} {p : α → Bool} (h : l.all p = true) {x : α} (hx : x ∈ l) : p x = true := List.all_eq_true.mp h x hx
section
variable {d : Dg} (o : d.Ok)
include o
theorem name_in : d.name ∈ names3 := by
 unfold Dg.name
 rw [List.getD_eq_getElem?_getD, List.getElem?_eq_getElem (show d.a12 < names3.length from o.h12)]
 exact List.getElem_mem _
theorem year_in : d.year ∈ years3 := by
 unfold Dg.year
 rw [List.getD_eq_getElem?_getD, List.getElem?_eq_getElem (show d.a13 < years3.length from o.h13)]
 exact List.getElem_mem _
theorem ts_closed : ∀ l ∈ d.ts, D.closedL 0 l = true := by
 have r := fun n h => all_at c_rest (x := n) (List.mem_range.mpr h)
 simp only [Bool.and_eq_true] at r
 intro l hl
 simp only [Dg.ts, List.mem_cons, List.not_mem_nil, or_false] at hl
 rcases hl with rfl | rfl | rfl | rfl | rfl | rfl | rfl | rfl | rfl
 ·exact all_at c_needs (mem2 o.h0 o.h1)
 ·exact all_at c_needs (mem2 o.h2 o.h3)
 ·exact all_at c_clash (List.mem_range.mpr o.h8)
 ·exact all_at c_files (mem2 o.h4 o.h9)
 ·exact (r _ o.h5).1
 ·exact (r _ (Nat.lt_succ_of_lt o.h6)).2.1
 ·exact all_at c_choice (mem2 o.h7 o.h4)
 ·exact (r _ o.h10).2.2.1
 ·exact (r _ o.h11).2.2.2
theorem tups_closed : D.closedL 0 (d.ts.map .tup) = true := closed_of fun x hx => by
 obtain ⟨l, hl, rfl⟩ := List.mem_map.mp hx
 simp only [D.closed]
 exact ts_closed o l hl
theorem make_is {μ : Mu} (hμ : closedMu μ.length μ = true) : makeO cC_Parcel F_Parcel_init (fun x => K_b_Parcel_init_3_needs_ahead_clashes_files_settings_asides_choices_calls_deeds (x :: [.str d.name, .int d.year]) (d.ts.map .tup)) μ = .ok d.P μ := by
 have cl := ts_closed o
 have T1 : D.closed 0 (.bl true) = true := by simp [D.closed]
 have c1 : ∀ {l : List D}, l ∈ d.ts → D.closed 0 (.tup l) = true := fun {l} hl => by simp only [D.closed]; exact cl l hl
 have m0 : needsL d.a0 d.a1 ∈ d.ts := by simp [Dg.ts]
 have m1 : needsL d.a2 d.a3 ∈ d.ts := by simp [Dg.ts]
 have m2 : clashL d.a8 ∈ d.ts := by simp [Dg.ts]
 have m3 : fileL d.a4 d.a9 ∈ d.ts := by simp [Dg.ts]
 have m4 : setL d.a5 ∈ d.ts := by simp [Dg.ts]
 have m5 : asideL d.a6 ∈ d.ts := by simp [Dg.ts]
 have m6 : choiceL d.a7 d.a4 ∈ d.ts := by simp [Dg.ts]
 have m7 : callL d.a10 ∈ d.ts := by simp [Dg.ts]
 have m8 : deedL d.a11 ∈ d.ts := by simp [Dg.ts]
 have cS : ∀ (x : Str) (l : List D), D.closedL 0 (.str x :: l) = D.closedL 0 l := fun x l => by simp [D.closedL, D.closed]
 have c2 : ∀ {l : List D} (r : List D), l ∈ d.ts → D.closedL 0 (.tup l :: r) = D.closedL 0 r := fun {l} r hl => by simp only [D.closedL, c1 hl, Bool.true_and]
 have cn : D.closedL 0 [] = true := by simp [D.closedL]
 have strsC := fun (l : List Str) => strs_closed l 0
 refine make_okG (init_okG (n := d.name) (e := d.year) (p0 := .tup (needsL d.a0 d.a1)) (p1 := .tup (needsL d.a2 d.a3)) (p2 := .tup (clashL d.a8)) (p3 := .tup (fileL d.a4 d.a9)) (p4 := .tup (setL d.a5)) (p5 := .tup (asideL d.a6)) (p6 := .tup (choiceL d.a7 d.a4)) (p7 := .tup (callL d.a10)) (p8 := .tup (deedL d.a11))
  (hs := (["a", "bb", "ccc"] : List Str).take (d.a8 % 5 % 4)) (H3 := paths8.take d.a4) (H4 := tuned4.take d.a5) ?_ ?_ ?_ ?_ ?_ ?_ ?_ ?_ ?_ ?_ ?_ ?_ ?_ ?_ ?_ ?_ μ) (tups_closed o) hμ
 ·exact fr_any (by rw [cS, cn]) (at_fam i_name (name_in o)) T1
 ·exact fr_any (by simp [D.closedL, D.closed]) (at_fam i_year (year_in o)) T1
 ·exact fr_any (by rw [cS, c2 _ m0, cn]) (at_fam i_needs' (memt (name_in o) o.h0 o.h1)) T1
 ·exact fr_any (by rw [cS, c2 _ m1, cn]) (at_fam i_needs' (memt (name_in o) o.h2 o.h3)) T1
 ·exact fr_any (by rw [c2 _ m2]; simp [D.closedL, D.closed, dfn]) (at_fam i_clash (List.mem_range.mpr o.h8)) T1
 ·exact fr_any (by rw [c2 _ m2, cn]) (at_fam i_clashH (List.mem_range.mpr o.h8)) (by simp only [D.closed]; exact strsC _)
 ·exact fun h => of_decide_eq_true (all_at names_out (name_in o)) (List.mem_of_mem_take h)
 ·exact fr_any (by rw [c2 _ m3]; simp [D.closedL, D.closed, dfn]) (at_fam i_files' (mem2 o.h4 o.h9)) T1
 ·exact fr_any (by rw [c2 _ m4]; simp [D.closedL, D.closed, dfn]) (at_fam i_sets (List.mem_range.mpr o.h5)) T1
 ·exact fr_any (by rw [c2 _ m3, cn]) (at_fam (i_filesH d.a9) (List.mem_range.mpr o.h4)) (by simp only [D.closed]; exact strsC _)
 ·exact fr_any (by rw [c2 _ m4, cn]) (at_fam i_setsH (List.mem_range.mpr o.h5)) (by simp only [D.closed]; exact strsC _)
 ·exact fun x hx => of_decide_eq_true (all_at (all_at apart_all (mem2 o.h4 o.h5)) hx)
 ·exact fr_any (by rw [c2 _ m5, c2 _ m3, c2 _ m4, cn]) (at_fam (i_aside d.a9) (mem3 o.h6 o.h4 o.h5)) T1
 ·exact fr_any (by rw [c2 _ m6, c2 _ m3, c2 _ m4, cn]) (at_fam (i_choice d.a9) (mem3 o.h7 o.h4 o.h5)) T1
 ·exact fr_any (by rw [c2 _ m7, cn]) (at_fam i_calls (List.mem_range.mpr o.h10)) T1
 ·exact fr_any (by rw [c2 _ m8]; simp [D.closedL, D.closed, dfn]) (at_fam i_deeds (List.mem_range.mpr o.h11)) T1
end
end DL78
namespace DL78
open PySem PySem.Spec PyProof.Rows L2 DL
def lp0e : FE := (dcall F_law_paths [] (aCons (dlst (aCons (dc (.str "a")) (aCons (dc (.str "a/b")) (aCons (dc (.str "bin/ls")) (aCons (dc (.str "x/y/z")) (aCons (dc (.str "abcdefgh/abcdefgh/abcdefgh")) (aCons (dc (.str "q")) (aCons (dc (.str "r")) (aCons (dc (.str "t/u")) aNil))))))))) (aCons (dbin dIxX (dvar 0) (dc (.int 4))) aNil)))
def lp0 : FS := gasg (.nm 1) lp0e
def lp1e : FE := (dcall F_law_paths [] (aCons (dlst (aCons (dc (.str "etc")) (aCons (dc (.str "etc/a")) (aCons (dc (.str "w/x/y")) (aCons (dc (.str "zz")) aNil))))) (aCons (dbin modD (dbin dIxX (dvar 0) (dc (.int 5))) (dc (.int 5))) aNil)))
def lp1 : FS := gasg (.nm 2) lp1e
def lp2e : FE := (dcall F_law_paths [] (aCons (dlst (aCons (dc (.str "bin/ls")) (aCons (dc (.str "far")) (aCons (dc (.str "k/l")) aNil)))) (aCons (dbin modD (dbin dIxX (dvar 0) (dc (.int 6))) (dc (.int 4))) aNil)))
def lp2 : FS := gasg (.nm 3) lp2e
def lp3e : FE := (dcall F_law_paths [] (aCons (dlst (aCons (dc (.str "edit")) (aCons (dc (.str "view/it")) (aCons (dc (.str "sh")) aNil)))) (aCons (dbin mulS (dbin modD (dbin dIxX (dvar 0) (dc (.int 7))) (dc (.int 4))) (dcallB bInt (aCons (dbin dNeC (dvar 1) (dlst aNil)) aNil))) aNil)))
def lp3 : FS := gasg (.nm 4) lp3e
def lp4e : FE := (dDisp [((dc (.str "needs")), (dcall F_law_needs [] (aCons (dvar 0) (aCons (dc (.int 0)) aNil)))), ((dc (.str "ahead")), (dcall F_law_needs [] (aCons (dvar 0) (aCons (dc (.int 2)) aNil))))])
def lp4 : FS := gasg (.nm 5) lp4e
def lp5 : FS := (gsetixX (dvar 5) (dc (.str "clashes")) (dcallB bTupleX (aCons (dlc (itR1 (aCons (dbin modD (dbin modD (dbin dIxX (dvar 0) (dc (.int 8))) (dc (.int 5))) (dc (.int 4))) aNil)) [7] (.nm 7) tyes (dtup (aCons (dbin mulS (dbin dIxX (dc (.str "abc")) (dvar 7)) (dbin addX (dc (.int 1)) (dvar 7))) (aCons (dbin addX (dc (.int 1)) (dvar 7)) (aCons (dbin dIxX (dlst (aCons (dbin addX (dc (.int 1)) (dvar 7)) (aCons (dc (.int 999)) aNil))) (dbin modD (dbin dIxX (dvar 0) (dc (.int 8))) (dc (.int 2)))) aNil))))) aNil)))
def lp6 : FS := (gsetixX (dvar 5) (dc (.str "files")) (dcallB bTupleX (aCons (dlc (itEX (aCons (dvar 1) aNil)) [7, 8] (.tp [(.nm 7), (.nm 8)]) tyes (dtup (aCons (dvar 8) (aCons (dbin dIxX (dlst (aCons (dc (.int 0)) (aCons (dc (.int 1)) (aCons (dbin powD (dc (.int 10)) (dc (.int 9))) (aCons (dc (.int 77)) aNil))))) (dbin modD (dbin addX (dvar 7) (dbin dIxX (dvar 0) (dc (.int 9)))) (dc (.int 4)))) aNil)))) aNil)))
def lp7 : FS := (gsetixX (dvar 5) (dc (.str "settings")) (dcallB bTupleX (aCons (dlc (itEX (aCons (dvar 2) aNil)) [7, 8] (.tp [(.nm 7), (.nm 8)]) tyes (dtup (aCons (dvar 8) (aCons (dbin dIxX (dlst (aCons (dc (.int 5)) (aCons (dbin powD (dc (.int 10)) (dc (.int 9))) aNil))) (dbin modD (dvar 7) (dc (.int 2)))) aNil)))) aNil)))
def lp8 : FS := (gsetixX (dvar 5) (dc (.str "asides")) (dcallB bTupleX (aCons (dlc (itEX (aCons (dvar 3) aNil)) [7, 8] (.tp [(.nm 7), (.nm 8)]) tyes (dtup (aCons (dvar 8) (aCons (dbin addX (dc (.str "led/")) (dbin dIxX (dc (.str "abc")) (dvar 7))) aNil)))) aNil)))
def lp9 : FS := (gsetixX (dvar 5) (dc (.str "choices")) (dcallB bTupleX (aCons (dlc (itEX (aCons (dvar 4) aNil)) [7, 8] (.tp [(.nm 7), (.nm 8)]) tyes (dtup (aCons (dvar 8) (aCons (dbin dIxX (dvar 1) (dbin modD (dvar 7) (dcallB bLen (aCons (dvar 1) aNil)))) (aCons (dbin dIxX (dlst (aCons (dc (.int 0)) (aCons (dc (.int 99)) (aCons (dc (.int 5)) aNil)))) (dvar 7)) aNil))))) aNil)))
def lp10 : FS := (gsetixX (dvar 5) (dc (.str "calls")) (dcallB bTupleX (aCons (dsl (dlst (aCons (dc (.str "b")) (aCons (dc (.str "cc")) (aCons (dc (.str "fonts")) (aCons (dc (.str "menus")) aNil))))) onone (osome (dbin modD (dbin dIxX (dvar 0) (dc (.int 10))) (dc (.int 5))))) aNil)))
def lp11e : FE := (dlst (aCons (dtup (aCons (dc (.str "ahead put")) (aCons (dc (.str "n")) (aCons (dc (.int 99)) aNil)))) (aCons (dtup (aCons (dc (.str "behind set")) (aCons (dc (.str "zzzzzzzz")) (aCons (dneg (dc (.int 99))) aNil)))) (aCons (dtup (aCons (dc (.str "ahead loose")) (aCons (dc (.str "m")) (aCons (dc (.int 0)) aNil)))) (aCons (dtup (aCons (dc (.str "ahead put")) (aCons (dc (.str "n")) (aCons (dneg (dc (.int 1))) aNil)))) aNil)))))
def lp11 : FS := gasg (.nm 6) lp11e
def lp12 : FS := (gsetixX (dvar 5) (dc (.str "deeds")) (dcallB bTupleX (aCons (dsl (dvar 6) onone (osome (dbin modD (dbin dIxX (dvar 0) (dc (.int 11))) (dc (.int 5))))) aNil)))
def lp13e : FE := (dvar 5)
def lp13 : FS := gret lp13e
theorem lp_is : g_law_parts = gseq lp0 (gseq lp1 (gseq lp2 (gseq lp3 (gseq lp4 (gseq lp5 (gseq lp6 (gseq lp7 (gseq lp8 (gseq lp9 (gseq lp10 (gseq lp11 (gseq lp12 lp13)))))))))))) := rfl
def own (xs : List D) : MO := .dct (([.inr "needs", .inr "ahead", .inr "clashes", .inr "files", .inr "settings", .inr "asides", .inr "choices", .inr "calls", .inr "deeds"] : List Key).take xs.length) xs
theorem lq0 (a0 a1 a2 a3 a5 a6 a7 a8 a9 a10 a11 a12 a13 : Nat) (s1 s2 s3 s4 s5 s6 s7 s8 : Option D) : (List.range 9).map (fun q => lp0 [some (.lst (Dg.mk a0 a1 a2 a3 q a5 a6 a7 a8 a9 a10 a11 a12 a13).vec), s1, s2, s3, s4, s5, s6, s7, s8] []) = (List.range 9).map fun q => .nx [some (.lst (Dg.mk a0 a1 a2 a3 q a5 a6 a7 a8 a9 a10 a11 a12 a13).vec), some (.lst ((paths8.take (Dg.mk a0 a1 a2 a3 q a5 a6 a7 a8 a9 a10 a11 a12 a13).a4).map .str)), s2, s3, s4, s5, s6, s7, s8] [] := by kernel_rfl
theorem lq1 (a0 a1 a2 a3 a4 a6 a7 a8 a9 a10 a11 a12 a13 : Nat) (s1 s2 s3 s4 s5 s6 s7 s8 : Option D) : (List.range 5).map (fun q => lp1 [some (.lst (Dg.mk a0 a1 a2 a3 a4 q a6 a7 a8 a9 a10 a11 a12 a13).vec), s1, s2, s3, s4, s5, s6, s7, s8] []) = (List.range 5).map fun q => .nx [some (.lst (Dg.mk a0 a1 a2 a3 a4 q a6 a7 a8 a9 a10 a11 a12 a13).vec), s1, some (.lst ((tuned4.take (Dg.mk a0 a1 a2 a3 a4 q a6 a7 a8 a9 a10 a11 a12 a13).a5).map .str)), s3, s4, s5, s6, s7, s8] [] := by kernel_rfl
theorem lq2 (a0 a1 a2 a3 a4 a5 a7 a8 a9 a10 a11 a12 a13 : Nat) (s1 s2 s3 s4 s5 s6 s7 s8 : Option D) : (List.range 4).map (fun q => lp2 [some (.lst (Dg.mk a0 a1 a2 a3 a4 a5 q a7 a8 a9 a10 a11 a12 a13).vec), s1, s2, s3, s4, s5, s6, s7, s8] []) = (List.range 4).map fun q => .nx [some (.lst (Dg.mk a0 a1 a2 a3 a4 a5 q a7 a8 a9 a10 a11 a12 a13).vec), s1, s2, some (.lst ((led3.take (Dg.mk a0 a1 a2 a3 a4 a5 q a7 a8 a9 a10 a11 a12 a13).a6).map .str)), s4, s5, s6, s7, s8] [] := by kernel_rfl
theorem lq3 (a0 a1 a2 a3 a5 a6 a8 a9 a10 a11 a12 a13 : Nat) (s2 s3 s4 s5 s6 s7 s8 : Option D) : (two 9 4).map (fun q => lp3 [some (.lst (Dg.mk a0 a1 a2 a3 q.1 a5 a6 q.2 a8 a9 a10 a11 a12 a13).vec), some (.lst ((paths8.take (Dg.mk a0 a1 a2 a3 q.1 a5 a6 q.2 a8 a9 a10 a11 a12 a13).a4).map .str)), s2, s3, s4, s5, s6, s7, s8] []) = (two 9 4).map fun q => .nx [some (.lst (Dg.mk a0 a1 a2 a3 q.1 a5 a6 q.2 a8 a9 a10 a11 a12 a13).vec), some (.lst ((paths8.take (Dg.mk a0 a1 a2 a3 q.1 a5 a6 q.2 a8 a9 a10 a11 a12 a13).a4).map .str)), s2, s3, some (.lst ((picks3.take (if (Dg.mk a0 a1 a2 a3 q.1 a5 a6 q.2 a8 a9 a10 a11 a12 a13).a4 = 0 then 0 else (Dg.mk a0 a1 a2 a3 q.1 a5 a6 q.2 a8 a9 a10 a11 a12 a13).a7)).map .str)), s5, s6, s7, s8] [] := by kernel_rfl
def quads : List ((Nat × Nat) × (Nat × Nat)) := (two 5 3).flatMap fun p => (two 5 3).map fun q => (p, q)
theorem lq4 (a4 a5 a6 a7 a8 a9 a10 a11 a12 a13 : Nat) (s1 s2 s3 s4 s5 s6 s7 s8 : Option D) : quads.map (fun q => lp4 [some (.lst (Dg.mk q.1.1 q.1.2 q.2.1 q.2.2 a4 a5 a6 a7 a8 a9 a10 a11 a12 a13).vec), s1, s2, s3, s4, s5, s6, s7, s8] []) = quads.map fun q => .nx [some (.lst (Dg.mk q.1.1 q.1.2 q.2.1 q.2.2 a4 a5 a6 a7 a8 a9 a10 a11 a12 a13).vec), s1, s2, s3, s4, some (.hdl 0), s6, s7, s8] [own [.tup (needsL (Dg.mk q.1.1 q.1.2 q.2.1 q.2.2 a4 a5 a6 a7 a8 a9 a10 a11 a12 a13).a0 (Dg.mk q.1.1 q.1.2 q.2.1 q.2.2 a4 a5 a6 a7 a8 a9 a10 a11 a12 a13).a1), .tup (needsL (Dg.mk q.1.1 q.1.2 q.2.1 q.2.2 a4 a5 a6 a7 a8 a9 a10 a11 a12 a13).a2 (Dg.mk q.1.1 q.1.2 q.2.1 q.2.2 a4 a5 a6 a7 a8 a9 a10 a11 a12 a13).a3)]] := by kernel_rfl
theorem lq5 (a0 a1 a2 a3 a4 a5 a6 a7 a9 a10 a11 a12 a13 : Nat) (s1 s2 s3 s4 s6 s7 s8 : Option D) (x0 x1 : D) : (List.range 5).map (fun q => lp5 [some (.lst (Dg.mk a0 a1 a2 a3 a4 a5 a6 a7 q a9 a10 a11 a12 a13).vec), s1, s2, s3, s4, some (.hdl 0), s6, s7, s8] [own [x0, x1]]) = (List.range 5).map fun q => .nx [some (.lst (Dg.mk a0 a1 a2 a3 a4 a5 a6 a7 q a9 a10 a11 a12 a13).vec), s1, s2, s3, s4, some (.hdl 0), s6, s7, s8] [own [x0, x1, .tup (clashL (Dg.mk a0 a1 a2 a3 a4 a5 a6 a7 q a9 a10 a11 a12 a13).a8)]] := by kernel_rfl
theorem lq6 (a0 a1 a2 a3 a5 a6 a7 a8 a10 a11 a12 a13 : Nat) (s2 s3 s4 s6 s7 s8 : Option D) (x0 x1 x2 : D) : (two 9 4).map (fun q => lp6 [some (.lst (Dg.mk a0 a1 a2 a3 q.1 a5 a6 a7 a8 q.2 a10 a11 a12 a13).vec), some (.lst ((paths8.take (Dg.mk a0 a1 a2 a3 q.1 a5 a6 a7 a8 q.2 a10 a11 a12 a13).a4).map .str)), s2, s3, s4, some (.hdl 0), s6, s7, s8] [own [x0, x1, x2]]) = (two 9 4).map fun q => .nx [some (.lst (Dg.mk a0 a1 a2 a3 q.1 a5 a6 a7 a8 q.2 a10 a11 a12 a13).vec), some (.lst ((paths8.take (Dg.mk a0 a1 a2 a3 q.1 a5 a6 a7 a8 q.2 a10 a11 a12 a13).a4).map .str)), s2, s3, s4, some (.hdl 0), s6, s7, s8] [own [x0, x1, x2, .tup (fileL (Dg.mk a0 a1 a2 a3 q.1 a5 a6 a7 a8 q.2 a10 a11 a12 a13).a4 (Dg.mk a0 a1 a2 a3 q.1 a5 a6 a7 a8 q.2 a10 a11 a12 a13).a9)]] := by kernel_rfl
theorem lq7 (a0 a1 a2 a3 a4 a6 a7 a8 a9 a10 a11 a12 a13 : Nat) (s1 s3 s4 s6 s7 s8 : Option D) (x0 x1 x2 x3 : D) : (List.range 5).map (fun q => lp7 [some (.lst (Dg.mk a0 a1 a2 a3 a4 q a6 a7 a8 a9 a10 a11 a12 a13).vec), s1, some (.lst ((tuned4.take (Dg.mk a0 a1 a2 a3 a4 q a6 a7 a8 a9 a10 a11 a12 a13).a5).map .str)), s3, s4, some (.hdl 0), s6, s7, s8] [own [x0, x1, x2, x3]]) = (List.range 5).map fun q => .nx [some (.lst (Dg.mk a0 a1 a2 a3 a4 q a6 a7 a8 a9 a10 a11 a12 a13).vec), s1, some (.lst ((tuned4.take (Dg.mk a0 a1 a2 a3 a4 q a6 a7 a8 a9 a10 a11 a12 a13).a5).map .str)), s3, s4, some (.hdl 0), s6, s7, s8] [own [x0, x1, x2, x3, .tup (setL (Dg.mk a0 a1 a2 a3 a4 q a6 a7 a8 a9 a10 a11 a12 a13).a5)]] := by kernel_rfl
theorem lq8 (a0 a1 a2 a3 a4 a5 a7 a8 a9 a10 a11 a12 a13 : Nat) (s1 s2 s4 s6 s7 s8 : Option D) (x0 x1 x2 x3 x4 : D) : (List.range 4).map (fun q => lp8 [some (.lst (Dg.mk a0 a1 a2 a3 a4 a5 q a7 a8 a9 a10 a11 a12 a13).vec), s1, s2, some (.lst ((led3.take (Dg.mk a0 a1 a2 a3 a4 a5 q a7 a8 a9 a10 a11 a12 a13).a6).map .str)), s4, some (.hdl 0), s6, s7, s8] [own [x0, x1, x2, x3, x4]]) = (List.range 4).map fun q => .nx [some (.lst (Dg.mk a0 a1 a2 a3 a4 a5 q a7 a8 a9 a10 a11 a12 a13).vec), s1, s2, some (.lst ((led3.take (Dg.mk a0 a1 a2 a3 a4 a5 q a7 a8 a9 a10 a11 a12 a13).a6).map .str)), s4, some (.hdl 0), s6, s7, s8] [own [x0, x1, x2, x3, x4, .tup (asideL (Dg.mk a0 a1 a2 a3 a4 a5 q a7 a8 a9 a10 a11 a12 a13).a6)]] := by kernel_rfl
theorem lq9 (a0 a1 a2 a3 a5 a6 a8 a9 a10 a11 a12 a13 : Nat) (s2 s3 s6 s7 s8 : Option D) (x0 x1 x2 x3 x4 x5 : D) : (two 9 4).map (fun q => lp9 [some (.lst (Dg.mk a0 a1 a2 a3 q.1 a5 a6 q.2 a8 a9 a10 a11 a12 a13).vec), some (.lst ((paths8.take (Dg.mk a0 a1 a2 a3 q.1 a5 a6 q.2 a8 a9 a10 a11 a12 a13).a4).map .str)), s2, s3, some (.lst ((picks3.take (if (Dg.mk a0 a1 a2 a3 q.1 a5 a6 q.2 a8 a9 a10 a11 a12 a13).a4 = 0 then 0 else (Dg.mk a0 a1 a2 a3 q.1 a5 a6 q.2 a8 a9 a10 a11 a12 a13).a7)).map .str)), some (.hdl 0), s6, s7, s8] [own [x0, x1, x2, x3, x4, x5]]) = (two 9 4).map fun q => .nx [some (.lst (Dg.mk a0 a1 a2 a3 q.1 a5 a6 q.2 a8 a9 a10 a11 a12 a13).vec), some (.lst ((paths8.take (Dg.mk a0 a1 a2 a3 q.1 a5 a6 q.2 a8 a9 a10 a11 a12 a13).a4).map .str)), s2, s3, some (.lst ((picks3.take (if (Dg.mk a0 a1 a2 a3 q.1 a5 a6 q.2 a8 a9 a10 a11 a12 a13).a4 = 0 then 0 else (Dg.mk a0 a1 a2 a3 q.1 a5 a6 q.2 a8 a9 a10 a11 a12 a13).a7)).map .str)), some (.hdl 0), s6, s7, s8] [own [x0, x1, x2, x3, x4, x5, .tup (choiceL (Dg.mk a0 a1 a2 a3 q.1 a5 a6 q.2 a8 a9 a10 a11 a12 a13).a7 (Dg.mk a0 a1 a2 a3 q.1 a5 a6 q.2 a8 a9 a10 a11 a12 a13).a4)]] := by kernel_rfl
theorem lq10 (a0 a1 a2 a3 a4 a5 a6 a7 a8 a9 a11 a12 a13 : Nat) (s1 s2 s3 s4 s6 s7 s8 : Option D) (x0 x1 x2 x3 x4 x5 x6 : D) : (List.range 5).map (fun q => lp10 [some (.lst (Dg.mk a0 a1 a2 a3 a4 a5 a6 a7 a8 a9 q a11 a12 a13).vec), s1, s2, s3, s4, some (.hdl 0), s6, s7, s8] [own [x0, x1, x2, x3, x4, x5, x6]]) = (List.range 5).map fun q => .nx [some (.lst (Dg.mk a0 a1 a2 a3 a4 a5 a6 a7 a8 a9 q a11 a12 a13).vec), s1, s2, s3, s4, some (.hdl 0), s6, s7, s8] [own [x0, x1, x2, x3, x4, x5, x6, .tup (callL (Dg.mk a0 a1 a2 a3 a4 a5 a6 a7 a8 a9 q a11 a12 a13).a10)]] := by kernel_rfl
theorem lq11 (v s1 s2 s3 s4 s5 s6 s7 s8 : Option D) (μ : Mu) : lp11 [v, s1, s2, s3, s4, s5, s6, s7, s8] μ = .nx [v, s1, s2, s3, s4, s5, some (.lst deeds4), s7, s8] μ := by kernel_rfl
theorem lq12 (a0 a1 a2 a3 a4 a5 a6 a7 a8 a9 a10 a12 a13 : Nat) (s1 s2 s3 s4 s7 s8 : Option D) (x0 x1 x2 x3 x4 x5 x6 x7 : D) : (List.range 5).map (fun q => lp12 [some (.lst (Dg.mk a0 a1 a2 a3 a4 a5 a6 a7 a8 a9 a10 q a12 a13).vec), s1, s2, s3, s4, some (.hdl 0), some (.lst deeds4), s7, s8] [own [x0, x1, x2, x3, x4, x5, x6, x7]]) = (List.range 5).map fun q => .nx [some (.lst (Dg.mk a0 a1 a2 a3 a4 a5 a6 a7 a8 a9 a10 q a12 a13).vec), s1, s2, s3, s4, some (.hdl 0), some (.lst deeds4), s7, s8] [own [x0, x1, x2, x3, x4, x5, x6, x7, .tup (deedL (Dg.mk a0 a1 a2 a3 a4 a5 a6 a7 a8 a9 a10 q a12 a13).a11)]] := by kernel_rfl
theorem lq13 (v s1 s2 s3 s4 s6 s7 s8 : Option D) (μ : Mu) : lp13 [v, s1, s2, s3, s4, some (.hdl 0), s6, s7, s8] μ = .rt (.hdl 0) μ := by kernel_rfl
theorem memq {a b c e : Nat} (ha : a < 5) (hb : b < 3) (hc : c < 5) (he : e < 3) : ((a, b), (c, e)) ∈ quads := List.mem_flatMap.mpr ⟨(a, b), mem2 ha hb, List.mem_map.mpr ⟨(c, e), mem2 hc he, rfl⟩⟩
theorem parts_is {d : Dg} (o : d.Ok) : F_law_parts [.lst d.vec] [] = .ok (.hdl 0) [own (d.ts.map .tup)] := by
 obtain ⟨a0, a1, a2, a3, a4, a5, a6, a7, a8, a9, a10, a11, a12, a13⟩ := d
 have e0 := at_fam (lq0 a0 a1 a2 a3 a5 a6 a7 a8 a9 a10 a11 a12 a13 none none none none none none none none) (List.mem_range.mpr o.h4)
 have e1 := at_fam (lq1 a0 a1 a2 a3 a4 a6 a7 a8 a9 a10 a11 a12 a13 (some (.lst ((paths8.take a4).map .str))) none none none none none none none) (List.mem_range.mpr o.h5)
 have e2 := at_fam (lq2 a0 a1 a2 a3 a4 a5 a7 a8 a9 a10 a11 a12 a13 (some (.lst ((paths8.take a4).map .str))) (some (.lst ((tuned4.take a5).map .str))) none none none none none none) (List.mem_range.mpr o.h6)
 have e3 := at_fam (lq3 a0 a1 a2 a3 a5 a6 a8 a9 a10 a11 a12 a13 (some (.lst ((tuned4.take a5).map .str))) (some (.lst ((led3.take a6).map .str))) none none none none none) (mem2 o.h4 o.h7)
 have e4 := at_fam (lq4 a4 a5 a6 a7 a8 a9 a10 a11 a12 a13 (some (.lst ((paths8.take a4).map .str))) (some (.lst ((tuned4.take a5).map .str))) (some (.lst ((led3.take a6).map .str))) (some (.lst ((picks3.take (if a4 = 0 then 0 else a7)).map .str))) none none none none) (memq o.h0 o.h1 o.h2 o.h3)
 have e5 := at_fam (lq5 a0 a1 a2 a3 a4 a5 a6 a7 a9 a10 a11 a12 a13 (some (.lst ((paths8.take a4).map .str))) (some (.lst ((tuned4.take a5).map .str))) (some (.lst ((led3.take a6).map .str))) (some (.lst ((picks3.take (if a4 = 0 then 0 else a7)).map .str))) none none none (.tup (needsL a0 a1)) (.tup (needsL a2 a3))) (List.mem_range.mpr o.h8)
 have e6 := at_fam (lq6 a0 a1 a2 a3 a5 a6 a7 a8 a10 a11 a12 a13 (some (.lst ((tuned4.take a5).map .str))) (some (.lst ((led3.take a6).map .str))) (some (.lst ((picks3.take (if a4 = 0 then 0 else a7)).map .str))) none none none (.tup (needsL a0 a1)) (.tup (needsL a2 a3)) (.tup (clashL a8))) (mem2 o.h4 o.h9)
 have e7 := at_fam (lq7 a0 a1 a2 a3 a4 a6 a7 a8 a9 a10 a11 a12 a13 (some (.lst ((paths8.take a4).map .str))) (some (.lst ((led3.take a6).map .str))) (some (.lst ((picks3.take (if a4 = 0 then 0 else a7)).map .str))) none none none (.tup (needsL a0 a1)) (.tup (needsL a2 a3)) (.tup (clashL a8)) (.tup (fileL a4 a9))) (List.mem_range.mpr o.h5)
 have e8 := at_fam (lq8 a0 a1 a2 a3 a4 a5 a7 a8 a9 a10 a11 a12 a13 (some (.lst ((paths8.take a4).map .str))) (some (.lst ((tuned4.take a5).map .str))) (some (.lst ((picks3.take (if a4 = 0 then 0 else a7)).map .str))) none none none (.tup (needsL a0 a1)) (.tup (needsL a2 a3)) (.tup (clashL a8)) (.tup (fileL a4 a9)) (.tup (setL a5))) (List.mem_range.mpr o.h6)
 have e9 := at_fam (lq9 a0 a1 a2 a3 a5 a6 a8 a9 a10 a11 a12 a13 (some (.lst ((tuned4.take a5).map .str))) (some (.lst ((led3.take a6).map .str))) none none none (.tup (needsL a0 a1)) (.tup (needsL a2 a3)) (.tup (clashL a8)) (.tup (fileL a4 a9)) (.tup (setL a5)) (.tup (asideL a6))) (mem2 o.h4 o.h7)
 have e10 := at_fam (lq10 a0 a1 a2 a3 a4 a5 a6 a7 a8 a9 a11 a12 a13 (some (.lst ((paths8.take a4).map .str))) (some (.lst ((tuned4.take a5).map .str))) (some (.lst ((led3.take a6).map .str))) (some (.lst ((picks3.take (if a4 = 0 then 0 else a7)).map .str))) none none none (.tup (needsL a0 a1)) (.tup (needsL a2 a3)) (.tup (clashL a8)) (.tup (fileL a4 a9)) (.tup (setL a5)) (.tup (asideL a6)) (.tup (choiceL a7 a4))) (List.mem_range.mpr o.h10)
 have e12 := at_fam (lq12 a0 a1 a2 a3 a4 a5 a6 a7 a8 a9 a10 a12 a13 (some (.lst ((paths8.take a4).map .str))) (some (.lst ((tuned4.take a5).map .str))) (some (.lst ((led3.take a6).map .str))) (some (.lst ((picks3.take (if a4 = 0 then 0 else a7)).map .str))) none none (.tup (needsL a0 a1)) (.tup (needsL a2 a3)) (.tup (clashL a8)) (.tup (fileL a4 a9)) (.tup (setL a5)) (.tup (asideL a6)) (.tup (choiceL a7 a4)) (.tup (callL a10))) (List.mem_range.mpr o.h11)
 dsimp only at e0 e1 e2 e3 e4 e5 e6 e7 e8 e9 e10 e12
 have body : g_law_parts (startD 9 [.lst (Dg.mk a0 a1 a2 a3 a4 a5 a6 a7 a8 a9 a10 a11 a12 a13).vec]) [] = .rt (.hdl 0) [own ((Dg.mk a0 a1 a2 a3 a4 a5 a6 a7 a8 a9 a10 a11 a12 a13).ts.map .tup)] := by
  have hs : ∀ v : D, startD 9 [v] = [some v, none, none, none, none, none, none, none, none] := fun _ => rfl
  rw [lp_is, hs]
  rw [ap_seq, e0, O.thn_nx, ap_seq, e1, O.thn_nx, ap_seq, e2, O.thn_nx, ap_seq, e3, O.thn_nx, ap_seq, e4, O.thn_nx, ap_seq, e5, O.thn_nx, ap_seq, e6, O.thn_nx, ap_seq, e7, O.thn_nx, ap_seq, e8, O.thn_nx, ap_seq, e9, O.thn_nx, ap_seq, e10, O.thn_nx, ap_seq, lq11, O.thn_nx, ap_seq, e12, O.thn_nx, lq13]
  rfl
 unfold F_law_parts callF
 rw [body]
 dsimp only
 unfold trunc
 simp [D.closed]
end DL78
namespace DL78
open PySem PySem.Spec PyProof.Rows L2 DL
def lt0e : FE := (dlst (aCons (dbin addX (dbin addX (dbin addX (dc (.str "parcel ")) (dvar 0)) (dc (.str " "))) (dcallB bStr (aCons (dvar 1) aNil))) aNil))
def lt0 : FS := gasg (.nm 3) lt0e
def lt1e : FE := (dDisp [((dc (.str "clashes")), (dc (.str "clashes"))), ((dc (.str "files")), (dc (.str "file"))), ((dc (.str "settings")), (dc (.str "setting"))), ((dc (.str "asides")), (dc (.str "aside"))), ((dc (.str "choices")), (dc (.str "choice")))])
def lt1 : FS := gasg (.nm 4) lt1e
def lt2 : FS := (gexpr (dbm "dict" mUpdate (dvar 4) (aCons (dDisp [((dc (.str "needs")), (dc (.str "needs"))), ((dc (.str "ahead")), (dc (.str "ahead"))), ((dc (.str "calls")), (dc (.str "call"))), ((dc (.str "deeds")), (dc (.str "deed")))]) aNil)))
def lt3i : FA := (itA (dlst (aCons (dc (.str "needs")) (aCons (dc (.str "ahead")) (aCons (dc (.str "clashes")) (aCons (dc (.str "files")) (aCons (dc (.str "settings")) (aCons (dc (.str "asides")) (aCons (dc (.str "choices")) (aCons (dc (.str "calls")) (aCons (dc (.str "deeds")) aNil)))))))))))
def lt3b : FS := (gasg (.nm 3) (dbin addX (dvar 3) (dlc (itA (dbin dIxX (dvar 2) (dvar 5))) [6] (.nm 6) tyes (dcall F_law_row [] (aCons (dbin dIxX (dvar 4) (dvar 5)) (aCons (dvar 6) aNil))))))
def lt3 : FS := gfor lt3i (.nm 5) lt3b
def lt4e : FE := (dbm "str" mJoin (dc (.str "\n")) (aCons (dvar 3) aNil))
def lt4 : FS := gret lt4e
theorem lt_is : g_law_text = gseq lt0 (gseq lt1 (gseq lt2 (gseq lt3 lt4))) := rfl
def sp0e : FE := (dtup (aCons (dmeth cC_Parcel "needs" F_Parcel_needs [] (dvar 0) aNil) (aCons (dmeth cC_Parcel "ahead" F_Parcel_ahead [] (dvar 0) aNil) (aCons (dmeth cC_Parcel "clashes" F_Parcel_clashes [] (dvar 0) aNil) (aCons (dmeth cC_Parcel "files" F_Parcel_files [] (dvar 0) aNil) (aCons (dmeth cC_Parcel "settings" F_Parcel_settings [] (dvar 0) aNil) (aCons (dmeth cC_Parcel "asides" F_Parcel_asides [] (dvar 0) aNil) (aCons (dmeth cC_Parcel "choices" F_Parcel_choices [] (dvar 0) aNil) (aCons (dmeth cC_Parcel "calls" F_Parcel_calls [] (dvar 0) aNil) (aCons (dmeth cC_Parcel "deeds" F_Parcel_deeds [] (dvar 0) aNil) aNil))))))))))
def sp0 : FS := gasg (.nm 1) sp0e
def sp1e : FE := (dcel (aCons (djoin [(dc (.str "parcel ")), (dfmt (dmeth cC_Parcel "called" F_Parcel_called [] (dvar 0) aNil)), (dc (.str " ")), (dfmt (dmeth cC_Parcel "edition" F_Parcel_edition [] (dvar 0) aNil))]) aNil))
def sp1 : FS := gasg (.nm 2) sp1e
def sp2i : FA := (itZS (aCons (dc (.tup [(.str "needs"), (.str "ahead"), (.str "clashes"), (.str "file"), (.str "setting"), (.str "aside"), (.str "choice"), (.str "call"), (.str "deed")])) (aCons (dvar 1) aNil)))
def sp2b : FS := (gexpr (dbm "list" mExtend (dvar 2) (aCons (dlc (itA (dvar 4)) [5] (.nm 5) tyes (dcall F_shown_thing [] (aCons (dvar 3) (aCons (dvar 5) aNil)))) aNil)))
def sp2 : FS := gfor sp2i (.tp [(.nm 3), (.nm 4)]) sp2b
def sp3e : FE := (dbm "str" mJoinX (dc (.str "\n")) (aCons (dvar 2) aNil))
def sp3 : FS := gret sp3e
theorem sp_is : g_show_parcel = gseq sp0 (gseq sp1 (gseq sp2 sp3)) := rfl
theorem ow0 (x0 x1 x2 x3 x4 x5 x6 x7 x8 : D) (μ : Mu) : dIxX (.hdl 0) (.str "needs") (own [x0, x1, x2, x3, x4, x5, x6, x7, x8] :: μ) = .ok x0 (own [x0, x1, x2, x3, x4, x5, x6, x7, x8] :: μ) := by kernel_rfl
theorem ow1 (x0 x1 x2 x3 x4 x5 x6 x7 x8 : D) (μ : Mu) : dIxX (.hdl 0) (.str "ahead") (own [x0, x1, x2, x3, x4, x5, x6, x7, x8] :: μ) = .ok x1 (own [x0, x1, x2, x3, x4, x5, x6, x7, x8] :: μ) := by kernel_rfl
theorem ow2 (x0 x1 x2 x3 x4 x5 x6 x7 x8 : D) (μ : Mu) : dIxX (.hdl 0) (.str "clashes") (own [x0, x1, x2, x3, x4, x5, x6, x7, x8] :: μ) = .ok x2 (own [x0, x1, x2, x3, x4, x5, x6, x7, x8] :: μ) := by kernel_rfl
theorem ow3 (x0 x1 x2 x3 x4 x5 x6 x7 x8 : D) (μ : Mu) : dIxX (.hdl 0) (.str "files") (own [x0, x1, x2, x3, x4, x5, x6, x7, x8] :: μ) = .ok x3 (own [x0, x1, x2, x3, x4, x5, x6, x7, x8] :: μ) := by kernel_rfl
theorem ow4 (x0 x1 x2 x3 x4 x5 x6 x7 x8 : D) (μ : Mu) : dIxX (.hdl 0) (.str "settings") (own [x0, x1, x2, x3, x4, x5, x6, x7, x8] :: μ) = .ok x4 (own [x0, x1, x2, x3, x4, x5, x6, x7, x8] :: μ) := by kernel_rfl
theorem ow5 (x0 x1 x2 x3 x4 x5 x6 x7 x8 : D) (μ : Mu) : dIxX (.hdl 0) (.str "asides") (own [x0, x1, x2, x3, x4, x5, x6, x7, x8] :: μ) = .ok x5 (own [x0, x1, x2, x3, x4, x5, x6, x7, x8] :: μ) := by kernel_rfl
theorem ow6 (x0 x1 x2 x3 x4 x5 x6 x7 x8 : D) (μ : Mu) : dIxX (.hdl 0) (.str "choices") (own [x0, x1, x2, x3, x4, x5, x6, x7, x8] :: μ) = .ok x6 (own [x0, x1, x2, x3, x4, x5, x6, x7, x8] :: μ) := by kernel_rfl
theorem ow7 (x0 x1 x2 x3 x4 x5 x6 x7 x8 : D) (μ : Mu) : dIxX (.hdl 0) (.str "calls") (own [x0, x1, x2, x3, x4, x5, x6, x7, x8] :: μ) = .ok x7 (own [x0, x1, x2, x3, x4, x5, x6, x7, x8] :: μ) := by kernel_rfl
theorem ow8 (x0 x1 x2 x3 x4 x5 x6 x7 x8 : D) (μ : Mu) : dIxX (.hdl 0) (.str "deeds") (own [x0, x1, x2, x3, x4, x5, x6, x7, x8] :: μ) = .ok x8 (own [x0, x1, x2, x3, x4, x5, x6, x7, x8] :: μ) := by kernel_rfl
def words9 : List Str := ["needs", "ahead", "clashes", "file", "setting", "aside", "choice", "call", "deed"]
theorem fam_mem {d : Dg} (o : d.Ok) : ∀ q ∈ words9.zip d.ts, ∀ t ∈ q.2, (q.1, t) ∈ fams := by
 have rn := fun {a b : Nat} (ha : a < 5) (hb : b < 3) (t : D) (ht : t ∈ needsL a b) => (show t ∈ TN from List.mem_flatMap.mpr ⟨a, List.mem_range.mpr ha, List.mem_flatMap.mpr ⟨b, List.mem_range.mpr hb, ht⟩⟩)
 have tg : ∀ {w : Str} {l : List D} {t : D}, t ∈ l → (w, t) ∈ tag w l := fun h => List.mem_map.mpr ⟨_, h, rfl⟩
 have L : ∀ {α : Type} {x : α} {a b : List α}, x ∈ a → x ∈ a ++ b := fun h => List.mem_append_left _ h
 have N : ∀ {α : Type} {x : α} {a b : List α}, x ∈ b → x ∈ a ++ b := fun h => List.mem_append_right _ h
 have rg : ∀ {m n : Nat} {f : Nat → D} {t : D}, m ≤ n → t ∈ (List.range m).map f → t ∈ (List.range n).map f := fun h ht => by
  obtain ⟨k, hk, rfl⟩ := List.mem_map.mp ht
  exact List.mem_map.mpr ⟨k, List.mem_range.mpr (Nat.lt_of_lt_of_le (List.mem_range.mp hk) h), rfl⟩
 intro q hq t ht
 simp only [words9, Dg.ts, List.zip_cons_cons, List.zip_nil_right, List.mem_cons, List.not_mem_nil, or_false] at hq
 unfold fams
 rcases hq with rfl | rfl | rfl | rfl | rfl | rfl | rfl | rfl | rfl
 ·exact L (tg (rn o.h0 o.h1 t ht))
 ·exact N (L (tg (rn o.h2 o.h3 t ht)))
 ·exact N (N (L (tg (List.mem_flatMap.mpr ⟨d.a8, List.mem_range.mpr o.h8, ht⟩))))
 ·refine N (N (N (L (tg ?_))))
  obtain ⟨k, hk, rfl⟩ := List.mem_map.mp ht
  refine List.mem_flatMap.mpr ⟨k, List.mem_range.mpr (Nat.lt_of_lt_of_le (List.mem_range.mp hk) (Nat.le_of_lt_succ o.h4)), List.mem_map.mpr ⟨(k + d.a9) % 4, List.mem_range.mpr (Nat.mod_lt _ (by decide)), ?_⟩⟩
  unfold fileD
  rw [Nat.mod_mod]
 ·exact N (N (N (N (L (tg (rg (Nat.le_of_lt_succ o.h5) ht))))))
 ·exact N (N (N (N (N (L (tg (rg (Nat.le_of_lt_succ o.h6) ht)))))))
 ·refine N (N (N (N (N (N (L (tg ?_)))))))
  obtain ⟨k, hk, rfl⟩ := List.mem_map.mp ht
  have hk := List.mem_range.mp hk
  by_cases h0 : d.a4 = 0
  ·rw [if_pos h0] at hk
   cases hk
  ·rw [if_neg h0] at hk
   have h7 := o.h7
   have h4 := o.h4
   exact List.mem_flatMap.mpr ⟨k, List.mem_range.mpr (by omega), List.mem_map.mpr ⟨k % d.a4, List.mem_range.mpr (Nat.lt_of_lt_of_le (Nat.mod_lt _ (by omega)) (by omega)), rfl⟩⟩
 ·refine N (N (N (N (N (N (N (L (tg ?_))))))))
  obtain ⟨k, hk, rfl⟩ := List.mem_map.mp ht
  exact List.mem_map.mpr ⟨k, (List.mem_of_mem_take hk), rfl⟩
 ·exact N (N (N (N (N (N (N (N (tg (List.mem_of_mem_take ht)))))))))
theorem fam_cl {w : Str} {t : D} (h : (w, t) ∈ fams) : D.closedL 0 [.str w, t] = true ∧ D.closedL 0 [t] = true := by
 have r := all_at fam_row h
 simp only [Bool.and_eq_true] at r
 exact ⟨by simpa [D.closedL, D.closed] using r.2.2, r.2.2⟩
theorem row_nl {w : Str} {t : D} (h : (w, t) ∈ fams) : (10 : Nat) ∉ (rowS w t).cps.toList ∧ (rowS w t).length ≤ 100 := by
 have r := all_at fam_row h
 simp only [Bool.and_eq_true] at r
 exact ⟨of_decide_eq_true r.1, of_decide_eq_true r.2.1⟩
theorem law_row {w : Str} {t : D} (h : (w, t) ∈ fams) (μ : Mu) : F_law_row [.str w, t] μ = .ok (.str (rowS w t)) μ := fr_any (fam_cl h).1 (at_fam fam_law h) (by simp [D.closed]) μ
theorem shown_row {w : Str} {t : D} (h : (w, t) ∈ fams) (μ : Mu) : F_shown_thing [.str w, t] μ = .ok (.str (rowS w t)) μ := fr_any (fam_cl h).1 (at_fam fam_shown h) (by simp [D.closed]) μ
theorem thing_row {w : Str} {t : D} (h : (w, t) ∈ fams) (μ : Mu) : F_thing_of [.str (rowS w t)] μ = .ok (.tup [.str w, t]) μ := fr_any (by simp [D.closedL, D.closed]) (at_fam fam_thing h) (by simpa [D.closed] using (fam_cl h).1) μ
section
variable {d : Dg} (o : d.Ok)
include o
theorem own_closed : closedMu 1 [own (d.ts.map .tup)] = true := by
 simp [closedMu, own, MO.closed]
 exact clL_up 1 _ (tups_closed o)
theorem parcel_is : F_law_parcel [.str d.name, .int d.year, .hdl 0] [own (d.ts.map .tup)] = .ok d.P [own (d.ts.map .tup)] := by
 have mk := make_is o (μ := [own (d.ts.map .tup)]) (own_closed o)
 have cP : D.closed 1 d.P = true := cl_up 1 _ (by simp only [Dg.P, objP, D.closed, D.closedF, Bool.true_and, Bool.and_true]; exact tups_closed o)
 have oc := own_closed o
 simp only [Dg.ts, List.map_cons, List.map_nil] at mk cP oc ⊢
 unfold F_law_parcel
 rw [framed_open (by simp [D.closedL, D.closed])]
 unfold callF
 have body : g_law_parcel (startD 3 [.str d.name, .int d.year, .hdl 0]) [own [.tup (needsL d.a0 d.a1), .tup (needsL d.a2 d.a3), .tup (clashL d.a8), .tup (fileL d.a4 d.a9), .tup (setL d.a5), .tup (asideL d.a6), .tup (choiceL d.a7 d.a4), .tup (callL d.a10), .tup (deedL d.a11)]] = .rt d.P [own [.tup (needsL d.a0 d.a1), .tup (needsL d.a2 d.a3), .tup (clashL d.a8), .tup (fileL d.a4 d.a9), .tup (setL d.a5), .tup (asideL d.a6), .tup (choiceL d.a7 d.a4), .tup (callL d.a10), .tup (deedL d.a11)]] := by
  simp only [g_law_parcel, startD]
  simp [ow0, ow1, ow2, ow3, ow4, ow5, ow6, ow7, ow8]
  rw [mk]
  rfl
 rw [body]
 exact trunc_same (Nat.le_refl _)
end
end DL78
namespace DL78
open PySem PySem.Spec PyProof.Rows L2 DL
theorem forD_nx {t : Tg} {b : FS} {x : D} {xs : List D} {ρ ρ1 ρ2 : En} {μ μ2 : Mu} (h1 : asg t x ρ = some ρ1) (h2 : b ρ1 μ = .nx ρ2 μ2) : forD t b (x :: xs) ρ μ = forD t b xs ρ2 μ2 := by
 rw [forD, h1]
 dsimp only
 rw [h2]
/-- a part: the law's word, the text's word, its things -/
structure Pq where
 (pn w : Str) (l : List D)
structure Pq.Ok (q : Pq) : Prop where
 fam : ∀ t ∈ q.l, (q.w, t) ∈ fams
 len : q.l.length ≤ 8
def Pq.rows (q : Pq) : List Str := q.l.map (rowS q.w)
theorem lc_law {q : Pq} (o : q.Ok) {n y h0 r : Option D} {M : Mu} (h1 : dIxX (.hdl 1) (.str q.pn) M = .ok (.str q.w) M) :
  lcD (.nm 6) tyes (dcall F_law_row [] (aCons (dbin dIxX (dvar 4) (dvar 5)) (aCons (dvar 6) aNil))) [n, y, h0, r, some (.hdl 1), some (.str q.pn), none] q.l M = .ok (q.rows.map .str) M := by
 rw [lc_pure (fun d => [n, y, h0, r, some (.hdl 1), some (.str q.pn), some d]) (fun _ => true) (fun t => .str (rowS q.w t))]
 ·rw [filt_true]
  simp [Pq.rows]
 ·intro t ht
  exact ⟨by simp, by simp, fun _ => by simp [h1, law_row (o.fam t ht)]⟩
theorem step_law {q : Pq} (o : q.Ok) {n y a6 : Option D} {R : List D} {M : Mu} (hR : R.length ≤ 1000) (h0 : dIxX (.hdl 0) (.str q.pn) M = .ok (.tup q.l) M) (h1 : dIxX (.hdl 1) (.str q.pn) M = .ok (.str q.w) M) :
  lt3b [n, y, some (.hdl 0), some (.lst R), some (.hdl 1), some (.str q.pn), a6] M = .nx [n, y, some (.hdl 0), some (.lst (R ++ q.rows.map .str)), some (.hdl 1), some (.str q.pn), a6] M := by
 have hl := o.len
 have hq : q.rows.length = q.l.length := by simp [Pq.rows]
 unfold lt3b
 simp [h0, wipeD]
 rw [lc_law o h1]
 simp [hq, show R.length + q.l.length ≤ 1000000 by omega]
theorem loop_law {n y : Option D} {M : Mu} : ∀ (qs : List Pq) (R : List D) (a5 a6 : Option D), (∀ q ∈ qs, q.Ok ∧ dIxX (.hdl 0) (.str q.pn) M = .ok (.tup q.l) M ∧ dIxX (.hdl 1) (.str q.pn) M = .ok (.str q.w) M) → R.length + 8 * qs.length ≤ 1000 →
  ∃ b5, forD (.nm 5) lt3b (qs.map fun q => .str q.pn) [n, y, some (.hdl 0), some (.lst R), some (.hdl 1), a5, a6] M = .nx [n, y, some (.hdl 0), some (.lst (R ++ (qs.flatMap Pq.rows).map .str)), some (.hdl 1), b5, a6] M
 | [], R, a5, a6, _, _ => ⟨a5, by simp [forD]⟩
 | q :: qs, R, a5, a6, h, hn => by
  obtain ⟨o, h0, h1⟩ := h q (by simp)
  have hl := o.len
  have hq : q.rows.length = q.l.length := by simp [Pq.rows]
  have hn' : R.length + 8 * (qs.length + 1) ≤ 1000 := hn
  obtain ⟨b5, ih⟩ := loop_law qs (R ++ q.rows.map .str) (some (.str q.pn)) a6 (fun p hp => h p (List.mem_cons_of_mem _ hp)) (by rw [List.length_append, List.length_map, hq]; omega)
  refine ⟨b5, ?_⟩
  rw [List.map_cons, forD_nx (ρ1 := [n, y, some (.hdl 0), some (.lst R), some (.hdl 1), some (.str q.pn), a6]) (by simp) (step_law o (by omega) h0 h1), ih]
  simp
theorem lc_show {q : Pq} (o : q.Ok) {p r h : Option D} {M : Mu} :
  lcD (.nm 5) tyes (dcall F_shown_thing [] (aCons (dvar 3) (aCons (dvar 5) aNil))) [p, r, h, some (.str q.w), some (.tup q.l), none] q.l M = .ok (q.rows.map .str) M := by
 rw [lc_pure (fun d => [p, r, h, some (.str q.w), some (.tup q.l), some d]) (fun _ => true) (fun t => .str (rowS q.w t))]
 ·rw [filt_true]
  simp [Pq.rows]
 ·intro t ht
  exact ⟨by simp, by simp, fun _ => by simp [shown_row (o.fam t ht)]⟩
theorem step_show {q : Pq} (o : q.Ok) {p r a5 : Option D} {R : List D} (hR : R.length ≤ 1000) :
  sp2b [p, r, some (.hdl 0), some (.str q.w), some (.tup q.l), a5] [.lst R] = .nx [p, r, some (.hdl 0), some (.str q.w), some (.tup q.l), a5] [.lst (R ++ q.rows.map .str)] := by
 have hl := o.len
 have hq : q.rows.length = q.l.length := by simp [Pq.rows]
 unfold sp2b
 simp [wipeD, tyD]
 rw [lc_show o]
 simp [mExtend, hq, show R.length + q.l.length ≤ 1000000 by omega]
theorem loop_show {p r : Option D} : ∀ (qs : List Pq) (R : List D) (a3 a4 a5 : Option D), (∀ q ∈ qs, q.Ok) → R.length + 8 * qs.length ≤ 1000 →
  ∃ b3 b4, forD (.tp [.nm 3, .nm 4]) sp2b (qs.map fun q => .tup [.str q.w, .tup q.l]) [p, r, some (.hdl 0), a3, a4, a5] [.lst R] = .nx [p, r, some (.hdl 0), b3, b4, a5] [.lst (R ++ (qs.flatMap Pq.rows).map .str)]
 | [], R, a3, a4, a5, _, _ => ⟨a3, a4, by simp [forD]⟩
 | q :: qs, R, a3, a4, a5, h, hn => by
  have o := h q (by simp)
  have hl := o.len
  have hq : q.rows.length = q.l.length := by simp [Pq.rows]
  have hn' : R.length + 8 * (qs.length + 1) ≤ 1000 := hn
  obtain ⟨b3, b4, ih⟩ := loop_show (p := p) (r := r) qs (R ++ q.rows.map .str) (some (.str q.w)) (some (.tup q.l)) a5 (fun p hp => h p (List.mem_cons_of_mem _ hp)) (by rw [List.length_append, List.length_map, hq]; omega)
  refine ⟨b3, b4, ?_⟩
  rw [List.map_cons, forD_nx (ρ1 := [p, r, some (.hdl 0), some (.str q.w), some (.tup q.l), a5]) (by simp) (step_show o (by omega)), ih]
  simp
end DL78
namespace DL78
open PySem PySem.Spec PyProof.Rows L2 DL
def Dg.qs (d : Dg) : List Pq := [⟨"needs", "needs", needsL d.a0 d.a1⟩, ⟨"ahead", "ahead", needsL d.a2 d.a3⟩, ⟨"clashes", "clashes", clashL d.a8⟩, ⟨"files", "file", fileL d.a4 d.a9⟩, ⟨"settings", "setting", setL d.a5⟩, ⟨"asides", "aside", asideL d.a6⟩, ⟨"choices", "choice", choiceL d.a7 d.a4⟩, ⟨"calls", "call", callL d.a10⟩, ⟨"deeds", "deed", deedL d.a11⟩]
def nm9 : List (Str × Int) := names3.flatMap fun n => years3.map fun y => (n, y)
theorem mem9 {d : Dg} (o : d.Ok) : (d.name, d.year) ∈ nm9 := List.mem_flatMap.mpr ⟨d.name, name_in o, List.mem_map.mpr ⟨d.year, year_in o, rfl⟩⟩
def pick2 (r : R D) : Str := match r with
 | .ok (.lst [.str s]) _ => s
 | _ => ""
def headS (n : Str) (y : Int) : Str := pick2 (lt0e [some (.str n), some (.int y), none, none, none, none, none] [])
theorem hd_law (m : MO) (h : Option D) : nm9.map (fun q => lt0 [some (.str q.1), some (.int q.2), h, none, none, none, none] [m]) = nm9.map fun q => .nx [some (.str q.1), some (.int q.2), h, some (.lst [.str (headS q.1 q.2)]), none, none, none] [m] := by kernel_rfl
theorem hd_join (ρ : En) (μ : Mu) : nm9.map (fun q => joinF [dc (.str "parcel "), dfmt (dc (.str q.1)), dc (.str " "), dfmt (dc (.int q.2))] Str.empty ρ μ) = nm9.map fun q => .ok (.str (headS q.1 q.2)) μ := by kernel_rfl
theorem joinF_cong {f g : FE} {fs gs : List FE} {acc : Str} {ρ : En} {μ : Mu} (h : f ρ μ = g ρ μ) (hs : ∀ acc μ, joinF fs acc ρ μ = joinF gs acc ρ μ) : joinF (f :: fs) acc ρ μ = joinF (g :: gs) acc ρ μ := by
 rw [joinF, joinF, h]
 congr 1
 funext d μ1
 cases d <;> simp [hs]
theorem hd_first : nm9.map (fun q => F_first_of [.str (headS q.1 q.2)] []) = nm9.map fun q => .ok (.tup [.str q.1, .int q.2]) [] := by kernel_rfl
theorem hd_nl : (nm9.all fun q => decide ((10 : Nat) ∉ (headS q.1 q.2).cps.toList) && decide ((headS q.1 q.2).length ≤ 100)) = true := by decide +kernel
def wd1 : MO := .dct [.inr "clashes", .inr "files", .inr "settings", .inr "asides", .inr "choices"] [.str "clashes", .str "file", .str "setting", .str "aside", .str "choice"]
def wd2 : MO := .dct [.inr "needs", .inr "ahead", .inr "calls", .inr "deeds"] [.str "needs", .str "ahead", .str "call", .str "deed"]
def wd : MO := .dct ([.inr "clashes", .inr "files", .inr "settings", .inr "asides", .inr "choices"] ++ [.inr "needs", .inr "ahead", .inr "calls", .inr "deeds"]) ([.str "clashes", .str "file", .str "setting", .str "aside", .str "choice"] ++ [.str "needs", .str "ahead", .str "call", .str "deed"])
theorem lt1_is (m : MO) (n y h r : Option D) : lt1 [n, y, h, r, none, none, none] [m] = .nx [n, y, h, r, some (.hdl 1), none, none] [m, wd1] := by kernel_rfl
theorem lt2_is (m : MO) (n y h r : Option D) : lt2 [n, y, h, r, some (.hdl 1), none, none] [m, wd1] = .nx [n, y, h, r, some (.hdl 1), none, none] [m, wd, wd2] := by kernel_rfl
def pairs9 : List (Str × Str) := [("needs", "needs"), ("ahead", "ahead"), ("clashes", "clashes"), ("files", "file"), ("settings", "setting"), ("asides", "aside"), ("choices", "choice"), ("calls", "call"), ("deeds", "deed")]
theorem wd_ix (m : MO) : pairs9.map (fun p => dIxX (.hdl 1) (.str p.1) [m, wd, wd2]) = pairs9.map fun p => .ok (.str p.2) [m, wd, wd2] := by kernel_rfl
theorem lt3i_is (ρ : En) (μ : Mu) : lt3i ρ μ = .ok (pairs9.map fun p => .str p.1) μ := by kernel_rfl
theorem sum_le {α : Type} {f : α → Nat} : ∀ {l : List α}, (∀ x ∈ l, f x ≤ 100) → (l.map f).sum ≤ 100 * l.length
 | [], _ => by simp
 | x :: l, h => by
  have h1 := h x (by simp)
  have ih := sum_le (l := l) (f := f) fun y hy => h y (List.mem_cons_of_mem _ hy)
  rw [List.map_cons, List.sum_cons, List.length_cons]
  omega
theorem rows_len : ∀ {qs : List Pq}, (∀ q ∈ qs, q.Ok) → (qs.flatMap Pq.rows).length ≤ 8 * qs.length
 | [], _ => by simp
 | q :: qs, h => by
  have h1 := (h q (by simp)).len
  have ih := rows_len (qs := qs) fun y hy => h y (List.mem_cons_of_mem _ hy)
  have hq : q.rows.length = q.l.length := by simp [Pq.rows]
  rw [List.flatMap_cons, List.length_append, List.length_cons]
  omega
theorem join_small {l : List Str} (h : ∀ x ∈ l, x.length ≤ 100) (hl : l.length ≤ 100) : ((l.map (·.length)).sum + l.length * ("\n" : Str).length ≤ 1000000 ∧ (Txt.join "\n" l).length ≤ 1000000) := by
 have s := sum_le (f := fun x : Str => x.length) h
 have e : ("\n" : Str).length = 1 := by decide +kernel
 have g : (Txt.join "\n" l).length = (l.map (·.length)).sum + (l.length - 1) * ("\n" : Str).length := PySem.size_glued "\n" l
 rw [g, e]
 omega
section
variable {d : Dg} (o : d.Ok)
include o
theorem qs_ok : ∀ q ∈ d.qs, q.Ok := by
 have h := fam_mem o
 have h0 := o.h0
 have h2 := o.h2
 have h4 := o.h4
 have h5 := o.h5
 have h6 := o.h6
 have h7 := o.h7
 have h10 := o.h10
 have h11 := o.h11
 simp only [words9, Dg.ts, List.zip_cons_cons, List.zip_nil_right, List.forall_mem_cons] at h
 simp only [Dg.qs, List.forall_mem_cons]
 obtain ⟨a0, a1, a2, a3, a4, a5, a6, a7, a8, _⟩ := h
 refine ⟨⟨a0, ?_⟩, ⟨a1, ?_⟩, ⟨a2, ?_⟩, ⟨a3, ?_⟩, ⟨a4, ?_⟩, ⟨a5, ?_⟩, ⟨a6, ?_⟩, ⟨a7, ?_⟩, ⟨a8, ?_⟩, fun _ z => nomatch z⟩
 ·simp [needsL]; omega
 ·simp [needsL]; omega
 ·simp [clashL]; omega
 ·simp [fileL]; omega
 ·simp [setL]; omega
 ·simp [asideL]; omega
 ·simp only [choiceL, List.length_map, List.length_range]; split <;> omega
 ·simp [callL]; omega
 ·simp [deedL]; omega
theorem rows_nl : ∀ x ∈ headS d.name d.year :: d.qs.flatMap Pq.rows, (10 : Nat) ∉ x.cps.toList ∧ x.length ≤ 100 := by
 intro x hx
 rcases List.mem_cons.mp hx with rfl | hx
 ·have r := all_at hd_nl (mem9 o)
  simp only [Bool.and_eq_true] at r
  exact ⟨of_decide_eq_true r.1, of_decide_eq_true r.2⟩
 ·obtain ⟨q, hq, hx⟩ := List.mem_flatMap.mp hx
  obtain ⟨t, ht, rfl⟩ := List.mem_map.mp hx
  exact row_nl ((qs_ok o q hq).fam t ht)
theorem all_len : (headS d.name d.year :: d.qs.flatMap Pq.rows).length ≤ 100 := by
 have h := rows_len (qs_ok o)
 have e : d.qs.length = 9 := rfl
 rw [e] at h
 rw [List.length_cons]
 omega
end
def Dg.text (d : Dg) : Str := Txt.join "\n" (headS d.name d.year :: d.qs.flatMap Pq.rows)
section
variable {d : Dg} (o : d.Ok)
include o
theorem joined (μ : Mu) : mJoin (.str "\n") [.lst (.str (headS d.name d.year) :: (d.qs.flatMap Pq.rows).map .str)] μ = .ok (.str d.text) μ := by
 have j := join_small (fun x hx => (rows_nl o x hx).2) (all_len o)
 have e : (.str (headS d.name d.year) :: (d.qs.flatMap Pq.rows).map D.str) = (headS d.name d.year :: d.qs.flatMap Pq.rows).map D.str := rfl
 rw [e]
 unfold mJoin
 dsimp only
 rw [strsD_map]
 dsimp only
 rw [if_pos j]
 rfl
theorem text_is : F_law_text [.str d.name, .int d.year, .hdl 0] [own (d.ts.map .tup)] = .ok (.str d.text) [own (d.ts.map .tup)] := by
 have e0 := at_fam (hd_law (own (d.ts.map .tup)) (some (.hdl 0))) (mem9 o)
 have ix : ∀ q ∈ d.qs, q.Ok ∧ dIxX (.hdl 0) (.str q.pn) [own (d.ts.map .tup), wd, wd2] = .ok (.tup q.l) [own (d.ts.map .tup), wd, wd2] ∧ dIxX (.hdl 1) (.str q.pn) [own (d.ts.map .tup), wd, wd2] = .ok (.str q.w) [own (d.ts.map .tup), wd, wd2] := by
  have hq := qs_ok o
  have hw := List.map_inj_left.mp (wd_ix (own (d.ts.map .tup)))
  simp only [pairs9, List.forall_mem_cons] at hw
  simp only [Dg.qs, List.forall_mem_cons] at hq ⊢
  obtain ⟨q0, q1, q2, q3, q4, q5, q6, q7, q8, _⟩ := hq
  obtain ⟨w0, w1, w2, w3, w4, w5, w6, w7, w8, _⟩ := hw
  exact ⟨⟨q0, ow0 .., w0⟩, ⟨q1, ow1 .., w1⟩, ⟨q2, ow2 .., w2⟩, ⟨q3, ow3 .., w3⟩, ⟨q4, ow4 .., w4⟩, ⟨q5, ow5 .., w5⟩, ⟨q6, ow6 .., w6⟩, ⟨q7, ow7 .., w7⟩, ⟨q8, ow8 .., w8⟩, fun _ z => nomatch z⟩
 obtain ⟨b5, lp⟩ := loop_law (n := some (.str d.name)) (y := some (.int d.year)) d.qs [.str (headS d.name d.year)] none none ix (by show 1 + 8 * 9 ≤ 1000; decide)
 have body : g_law_text (startD 7 [.str d.name, .int d.year, .hdl 0]) [own (d.ts.map .tup)] = .rt (.str d.text) [own (d.ts.map .tup), wd, wd2] := by
  have hs : startD 7 [.str d.name, .int d.year, .hdl 0] = [some (.str d.name), some (.int d.year), some (.hdl 0), none, none, none, none] := rfl
  have e3 : lt3 [some (.str d.name), some (.int d.year), some (.hdl 0), some (.lst [.str (headS d.name d.year)]), some (.hdl 1), none, none] [own (d.ts.map .tup), wd, wd2] = .nx [some (.str d.name), some (.int d.year), some (.hdl 0), some (.lst (.str (headS d.name d.year) :: (d.qs.flatMap Pq.rows).map .str)), some (.hdl 1), b5, none] [own (d.ts.map .tup), wd, wd2] := by
   unfold lt3 gfor
   rw [lt3i_is, R.to_ok]
   exact lp
  rw [lt_is, hs, ap_seq, e0, O.thn_nx, ap_seq, lt1_is, O.thn_nx, ap_seq, lt2_is, O.thn_nx, ap_seq, e3, O.thn_nx]
  unfold lt4 lt4e
  simp [tyD, joined o]
 unfold F_law_text
 rw [framed_open (by simp [D.closedL, D.closed])]
 rw [callF_eq _ _ _ _ _ _ body]
 exact trunc_app (μ := [own (d.ts.map .tup)]) (ex := [wd, wd2]) (by simp [D.closed]) (own_closed o)
theorem show_is (μ : Mu) : F_show_parcel [d.P] μ = .ok (.str d.text) μ := by
 have cP : D.closedL 0 [.str d.name, .int d.year, .tup (needsL d.a0 d.a1), .tup (needsL d.a2 d.a3), .tup (clashL d.a8), .tup (fileL d.a4 d.a9), .tup (setL d.a5), .tup (asideL d.a6), .tup (choiceL d.a7 d.a4), .tup (callL d.a10), .tup (deedL d.a11)] = true := by
  have h := tups_closed o
  simp only [Dg.ts, List.map_cons, List.map_nil] at h
  simpa [D.closedL, D.closed] using h
 refine fr_ok (μ1 := [.lst (.str (headS d.name d.year) :: (d.qs.flatMap Pq.rows).map .str)]) (obj_closed (by simpa [Dg.ts] using cP)) ?_ (by simp [D.closed])
 have h := cP
 have e0 : sp0 [some d.P, none, none, none, none, none] [] = .nx [some d.P, some (.tup (d.ts.map .tup)), none, none, none, none] [] := by
  unfold sp0 sp0e
  simp only [Dg.P, Dg.ts, List.map_cons, List.map_nil, ap_set, ap_tup, ap_aCons, ap_aNil, R.bind_ok, List.getElem?_cons_zero, needs_m h, ahead_m h, clashes_m h, files_m h, settings_m h, asides_m h, choices_m h, calls_m h, deeds_m h]
  rfl
 have e1 : sp1 [some d.P, some (.tup (d.ts.map .tup)), none, none, none, none] [] = .nx [some d.P, some (.tup (d.ts.map .tup)), some (.hdl 0), none, none, none] [.lst [.str (headS d.name d.year)]] := by
  unfold sp1 sp1e
  have hj : ∀ ρ : En, ρ[0]? = some (some d.P) → joinF [dc (.str "parcel "), dfmt (dmeth cC_Parcel "called" F_Parcel_called [] (dvar 0) aNil), dc (.str " "), dfmt (dmeth cC_Parcel "edition" F_Parcel_edition [] (dvar 0) aNil)] Str.empty ρ [] = .ok (.str (headS d.name d.year)) [] := fun ρ hρ => by
   rw [← at_fam (hd_join ρ []) (mem9 o)]
   have m1 : ∀ μ, dfmt (dmeth cC_Parcel "called" F_Parcel_called [] (dvar 0) aNil) ρ μ = dfmt (dc (.str d.name)) ρ μ := fun μ => by rw [ap_fmt, ap_fmt, called_m h hρ μ, ap_dc]
   have m2 : ∀ μ, dfmt (dmeth cC_Parcel "edition" F_Parcel_edition [] (dvar 0) aNil) ρ μ = dfmt (dc (.int d.year)) ρ μ := fun μ => by rw [ap_fmt, ap_fmt, edition_m h hρ μ, ap_dc]
   exact joinF_cong rfl fun a μ => joinF_cong (m1 μ) fun a μ => joinF_cong rfl fun a μ => joinF_cong (m2 μ) fun a μ => rfl
  rw [ap_set]
  have hc : (dcel (aCons (djoin [dc (.str "parcel "), dfmt (dmeth cC_Parcel "called" F_Parcel_called [] (dvar 0) aNil), dc (.str " "), dfmt (dmeth cC_Parcel "edition" F_Parcel_edition [] (dvar 0) aNil)]) aNil)) [some d.P, some (.tup (d.ts.map .tup)), none, none, none, none] [] = .ok (.hdl 0) [.lst [.str (headS d.name d.year)]] := by
   rw [ap_cel, ap_aCons, ap_join, hj _ rfl]
   simp
  rw [hc]
  rfl
 have hq := qs_ok o
 obtain ⟨b3, b4, lp⟩ := loop_show (p := some d.P) (r := some (.tup (d.ts.map .tup))) d.qs [.str (headS d.name d.year)] none none none hq (by show 1 + 8 * 9 ≤ 1000; decide)
 have e2i : sp2i [some d.P, some (.tup (d.ts.map .tup)), some (.hdl 0), none, none, none] [.lst [.str (headS d.name d.year)]] = .ok (d.qs.map fun q => .tup [.str q.w, .tup q.l]) [.lst [.str (headS d.name d.year)]] := by
  unfold sp2i
  simp [rowD, Dg.ts, Dg.qs, zipD]
 have e2 : sp2 [some d.P, some (.tup (d.ts.map .tup)), some (.hdl 0), none, none, none] [.lst [.str (headS d.name d.year)]] = .nx [some d.P, some (.tup (d.ts.map .tup)), some (.hdl 0), b3, b4, none] [.lst (.str (headS d.name d.year) :: (d.qs.flatMap Pq.rows).map .str)] := by
  unfold sp2 gfor
  rw [e2i, R.to_ok]
  exact lp
 have hs : ∀ x : D, startD 6 [x] = [some x, none, none, none, none, none] := fun _ => rfl
 rw [sp_is, hs, ap_seq, e0, O.thn_nx, ap_seq, e1, O.thn_nx, ap_seq, e2, O.thn_nx]
 unfold sp3 sp3e
 simp [tyD, mJoinX, joined o]
end
end DL78
namespace DL78
open PySem PySem.Spec PyProof.Rows L2 DL
def rp0 : FS := (gexpr (dcall F_look_at_text [] (aCons (dvar 0) aNil)))
def rp1 : FS := (gstar 4 19 (dbm "str" mSplit (dvar 0) (aCons (dc (.str "\n")) aNil)))
def rp2e : FE := (dcall F_first_of [] (aCons (dvar 4) aNil))
def rp2 : FS := gasg (.tp [(.nm 5), (.nm 6)]) rp2e
def rp3e : FE := (ddc (itA (dc (.tup [(.str "needs"), (.str "ahead"), (.str "clashes"), (.str "file"), (.str "setting"), (.str "aside"), (.str "choice"), (.str "call"), (.str "deed")]))) [20] (.nm 20) tyes (dvar 20) (dcel aNil))
def rp3 : FS := gasg (.nm 1) rp3e
def rp4e : FE := (dc (.int 0))
def rp4 : FS := gasg (.nm 2) rp4e
def rp5i : FA := (itE1 (aCons (dvar 19) aNil))
def rp5b : FS := (gseq (gasg (.nm 9) (dcall F_thing_of [] (aCons (dvar 8) aNil))) (gseq (gif (tor (dtest (dbin isD (dvar 9) (dc .non))) (dtest (dbin ltD (dtix tx_ORDER (dbin dIxX (dvar 9) (dc (.int 0)))) (dvar 2)))) (graise cC_NoText ["row"] (aCons (dvar 7) aNil)) gnil) (gseq (gasg (.nm 2) (dtix tx_ORDER (dbin dIxX (dvar 9) (dc (.int 0))))) (gexpr (dbm "list" mAppend (dbin dIxX (dvar 1) (dbin dIxX (dvar 9) (dc (.int 0)))) (aCons (dbin dIxX (dvar 9) (dc (.int 1))) aNil))))))
def rp5 : FS := gfor rp5i (.tp [(.nm 7), (.nm 8)]) rp5b
def rp6 : FS := (gasgL [(.nm 10), (.nm 11), (.nm 12), (.nm 13), (.nm 14), (.nm 15), (.nm 16), (.nm 17), (.nm 18)] (dlc (itA (dc (.tup [(.str "needs"), (.str "ahead"), (.str "clashes"), (.str "file"), (.str "setting"), (.str "aside"), (.str "choice"), (.str "call"), (.str "deed")]))) [20] (.nm 20) tyes (dcallB bTupleX (aCons (dbin dIxX (dvar 1) (dvar 20)) aNil))))
def rp7 : FS := (gtry (gret (dmakeK (makeO cC_Parcel F_Parcel_init) K_b_Parcel_init_3_needs_ahead_clashes_files_settings_asides_choices_calls_deeds (aCons (dvar 5) (aCons (dvar 6) aNil)) (aCons (dvar 10) (aCons (dvar 11) (aCons (dvar 12) (aCons (dvar 13) (aCons (dvar 14) (aCons (dvar 15) (aCons (dvar 16) (aCons (dvar 17) (aCons (dvar 18) aNil))))))))))) [(Cl.mk (mL exy_NoParcel exn_NoParcel) (some 3) (fun cc fs => gbad))])
theorem rp_is : g_read_parcel = gseq rp0 (gseq rp1 (gseq rp2 (gseq rp3 (gseq rp4 (gseq rp5 (gseq rp6 rp7)))))) := rfl
def pd9 : MO := .dct [.inr "needs", .inr "ahead", .inr "clashes", .inr "file", .inr "setting", .inr "aside", .inr "choice", .inr "call", .inr "deed"] [.hdl 0, .hdl 1, .hdl 2, .hdl 3, .hdl 4, .hdl 5, .hdl 6, .hdl 7, .hdl 8]
abbrev M9 (l0 l1 l2 l3 l4 l5 l6 l7 l8 : List D) : Mu := [.lst l0, .lst l1, .lst l2, .lst l3, .lst l4, .lst l5, .lst l6, .lst l7, .lst l8, pd9]
abbrev ev (t f n y rs : D) (last : Int) (n7 r8 f9 : Option D) : En := [some t, some (.hdl 9), some (.int last), none, some f, some n, some y, n7, r8, f9, none, none, none, none, none, none, none, none, none, some rs, none]
theorem look_is (x : Str) : F_look_at_text [.str x] [] = .ok .non [] := by kernel_rfl
theorem dtix_at {w : Str} {p : Nat} {t : D} {ρ : En} {μ : Mu} (h : ρ[9]? = some (some (.tup [.str w, t]))) (hp : tx_ORDER.findIdx? (fun x => decide (x = w)) = some p) : dtix tx_ORDER (dbin dIxX (dvar 9) (dc (.int 0))) ρ μ = .ok (.int p) μ := by
 unfold dtix
 have e : dbin dIxX (dvar 9) (dc (.int 0)) ρ μ = .ok (.str w) μ := by
  simp [h, ixX_tup]
 rw [e, R.bind_ok]
 dsimp only
 rw [hp]
/-- one row of the part p -/
theorem row_step {w : Str} {p : Nat} {Mp : List D → Mu} (hp : tx_ORDER.findIdx? (fun x => decide (x = w)) = some p) (hx : ∀ l, dIxX (.hdl 9) (.str w) (Mp l) = .ok (.hdl p) (Mp l)) (ha : ∀ l t, l.length ≤ 1000 → dbm "list" mAppend (dc (.hdl p)) (aCons (dc t) aNil) [] (Mp l) = .ok .non (Mp (l ++ [t])))
  {T f n y rs t : D} {last k : Int} {l : List D} {f9 : Option D} (ht : (w, t) ∈ fams) (hl : last ≤ p) (hn : l.length ≤ 1000) :
  rp5b (ev T f n y rs last (some (.int k)) (some (.str (rowS w t))) f9) (Mp l) = .nx (ev T f n y rs p (some (.int k)) (some (.str (rowS w t))) (some (.tup [.str w, t]))) (Mp (l ++ [t])) := by
 have h1 : gasg (.nm 9) (dcall F_thing_of [] (aCons (dvar 8) aNil)) (ev T f n y rs last (some (.int k)) (some (.str (rowS w t))) f9) (Mp l) = .nx (ev T f n y rs last (some (.int k)) (some (.str (rowS w t))) (some (.tup [.str w, t]))) (Mp l) := by
  simp [ev, thing_row ht]
 have h2 : gif (tor (dtest (dbin isD (dvar 9) (dc .non))) (dtest (dbin ltD (dtix tx_ORDER (dbin dIxX (dvar 9) (dc (.int 0)))) (dvar 2)))) (graise cC_NoText ["row"] (aCons (dvar 7) aNil)) gnil (ev T f n y rs last (some (.int k)) (some (.str (rowS w t))) (some (.tup [.str w, t]))) (Mp l) = .nx (ev T f n y rs last (some (.int k)) (some (.str (rowS w t))) (some (.tup [.str w, t]))) (Mp l) := by
  have e := dtix_at (w := w) (p := p) (t := t) (ρ := ev T f n y rs last (some (.int k)) (some (.str (rowS w t))) (some (.tup [.str w, t]))) (μ := Mp l) rfl hp
  have hlt : ¬ ((p : Int) < last) := by omega
  rw [ap_gif, ap_tor]
  have e1 : dtest (dbin isD (dvar 9) (dc .non)) (ev T f n y rs last (some (.int k)) (some (.str (rowS w t))) (some (.tup [.str w, t]))) (Mp l) = .ok false (Mp l) := by
   simp [ev, isNoneD]
  have e2 : dtest (dbin ltD (dtix tx_ORDER (dbin dIxX (dvar 9) (dc (.int 0)))) (dvar 2)) (ev T f n y rs last (some (.int k)) (some (.str (rowS w t))) (some (.tup [.str w, t]))) (Mp l) = .ok false (Mp l) := by
   rw [ap_test, ap_bin, e]
   simp [ev, hlt]
  rw [e1, R.bind_ok, if_neg Bool.false_ne_true, e2, R.to_ok, if_neg Bool.false_ne_true, ap_nil]
 have h3 : gasg (.nm 2) (dtix tx_ORDER (dbin dIxX (dvar 9) (dc (.int 0)))) (ev T f n y rs last (some (.int k)) (some (.str (rowS w t))) (some (.tup [.str w, t]))) (Mp l) = .nx (ev T f n y rs p (some (.int k)) (some (.str (rowS w t))) (some (.tup [.str w, t]))) (Mp l) := by
  rw [ap_set, dtix_at (w := w) (p := p) (t := t) rfl hp, R.to_ok]
  rfl
 have h4 : gexpr (dbm "list" mAppend (dbin dIxX (dvar 1) (dbin dIxX (dvar 9) (dc (.int 0)))) (aCons (dbin dIxX (dvar 9) (dc (.int 1))) aNil)) (ev T f n y rs p (some (.int k)) (some (.str (rowS w t))) (some (.tup [.str w, t]))) (Mp l) = .nx (ev T f n y rs p (some (.int k)) (some (.str (rowS w t))) (some (.tup [.str w, t]))) (Mp (l ++ [t])) := by
  have a := ha l t hn
  simp only [ap_bm, ap_dc, ap_aCons, ap_aNil, R.bind_ok, append_hdl] at a
  simp [ev, ixX_tup, hx]
  rw [a]
  rfl
 unfold rp5b
 rw [ap_seq, h1, O.thn_nx, ap_seq, h2, O.thn_nx, ap_seq, h3, O.thn_nx, h4]
theorem rows_loop {w : Str} {p : Nat} {Mp : List D → Mu} (hp : tx_ORDER.findIdx? (fun x => decide (x = w)) = some p) (hx : ∀ l, dIxX (.hdl 9) (.str w) (Mp l) = .ok (.hdl p) (Mp l)) (ha : ∀ l t, l.length ≤ 1000 → dbm "list" mAppend (dc (.hdl p)) (aCons (dc t) aNil) [] (Mp l) = .ok .non (Mp (l ++ [t])))
  {T f n y rs : D} : ∀ (ts tail : List D) (l : List D) (last k : Int) (n7 r8 f9 : Option D), (∀ t ∈ ts, (w, t) ∈ fams) → last ≤ p → l.length + ts.length ≤ 1000 →
  ∃ last' k' n7' r8' f9', last' ≤ (p : Int) ∧ forD (.tp [.nm 7, .nm 8]) rp5b (enumD k (ts.map (fun t => .str (rowS w t)) ++ tail)) (ev T f n y rs last n7 r8 f9) (Mp l) = forD (.tp [.nm 7, .nm 8]) rp5b (enumD k' tail) (ev T f n y rs last' n7' r8' f9') (Mp (l ++ ts))
 | [], tail, l, last, k, n7, r8, f9, _, hl, _ => ⟨last, k, n7, r8, f9, hl, by simp⟩
 | t :: ts, tail, l, last, k, n7, r8, f9, h, hl, hn => by
  rw [List.length_cons] at hn
  obtain ⟨last', k', n7', r8', f9', hl', ih⟩ := rows_loop hp hx ha (T := T) (f := f) (n := n) (y := y) (rs := rs) ts tail (l ++ [t]) p (k + 1) (some (.int k)) (some (.str (rowS w t))) (some (.tup [.str w, t])) (fun x hx => h x (List.mem_cons_of_mem _ hx)) (Int.le_refl _) (by rw [List.length_append]; simp; omega)
  refine ⟨last', k', n7', r8', f9', hl', ?_⟩
  rw [List.map_cons, List.cons_append, enumD, forD_nx (ρ1 := ev T f n y rs last (some (.int k)) (some (.str (rowS w t))) f9) (by simp [ev]) (row_step hp hx ha (h t (by simp)) hl (by omega)), ih, List.append_assoc]
  rfl

theorem hp0 : tx_ORDER.findIdx? (fun x => decide (x = ("needs" : Str))) = some 0 := by kernel_rfl
theorem hx0 (l1 l2 l3 l4 l5 l6 l7 l8 l : List D) : dIxX (.hdl 9) (.str "needs") (M9 l l1 l2 l3 l4 l5 l6 l7 l8) = .ok (.hdl 0) (M9 l l1 l2 l3 l4 l5 l6 l7 l8) := by kernel_rfl
theorem ha0 (l1 l2 l3 l4 l5 l6 l7 l8 l : List D) (t : D) (h : l.length ≤ 1000) : dbm "list" mAppend (dc (.hdl 0)) (aCons (dc t) aNil) [] (M9 l l1 l2 l3 l4 l5 l6 l7 l8) = .ok .non (M9 (l ++ [t]) l1 l2 l3 l4 l5 l6 l7 l8) := by
 simp [M9, tyD, mAppend, show l.length < 1000000 by omega]
theorem hp1 : tx_ORDER.findIdx? (fun x => decide (x = ("ahead" : Str))) = some 1 := by kernel_rfl
theorem hx1 (l0 l2 l3 l4 l5 l6 l7 l8 l : List D) : dIxX (.hdl 9) (.str "ahead") (M9 l0 l l2 l3 l4 l5 l6 l7 l8) = .ok (.hdl 1) (M9 l0 l l2 l3 l4 l5 l6 l7 l8) := by kernel_rfl
theorem ha1 (l0 l2 l3 l4 l5 l6 l7 l8 l : List D) (t : D) (h : l.length ≤ 1000) : dbm "list" mAppend (dc (.hdl 1)) (aCons (dc t) aNil) [] (M9 l0 l l2 l3 l4 l5 l6 l7 l8) = .ok .non (M9 l0 (l ++ [t]) l2 l3 l4 l5 l6 l7 l8) := by
 simp [M9, tyD, mAppend, show l.length < 1000000 by omega]
theorem hp2 : tx_ORDER.findIdx? (fun x => decide (x = ("clashes" : Str))) = some 2 := by kernel_rfl
theorem hx2 (l0 l1 l3 l4 l5 l6 l7 l8 l : List D) : dIxX (.hdl 9) (.str "clashes") (M9 l0 l1 l l3 l4 l5 l6 l7 l8) = .ok (.hdl 2) (M9 l0 l1 l l3 l4 l5 l6 l7 l8) := by kernel_rfl
theorem ha2 (l0 l1 l3 l4 l5 l6 l7 l8 l : List D) (t : D) (h : l.length ≤ 1000) : dbm "list" mAppend (dc (.hdl 2)) (aCons (dc t) aNil) [] (M9 l0 l1 l l3 l4 l5 l6 l7 l8) = .ok .non (M9 l0 l1 (l ++ [t]) l3 l4 l5 l6 l7 l8) := by
 simp [M9, tyD, mAppend, show l.length < 1000000 by omega]
theorem hp3 : tx_ORDER.findIdx? (fun x => decide (x = ("file" : Str))) = some 3 := by kernel_rfl
theorem hx3 (l0 l1 l2 l4 l5 l6 l7 l8 l : List D) : dIxX (.hdl 9) (.str "file") (M9 l0 l1 l2 l l4 l5 l6 l7 l8) = .ok (.hdl 3) (M9 l0 l1 l2 l l4 l5 l6 l7 l8) := by kernel_rfl
theorem ha3 (l0 l1 l2 l4 l5 l6 l7 l8 l : List D) (t : D) (h : l.length ≤ 1000) : dbm "list" mAppend (dc (.hdl 3)) (aCons (dc t) aNil) [] (M9 l0 l1 l2 l l4 l5 l6 l7 l8) = .ok .non (M9 l0 l1 l2 (l ++ [t]) l4 l5 l6 l7 l8) := by
 simp [M9, tyD, mAppend, show l.length < 1000000 by omega]
theorem hp4 : tx_ORDER.findIdx? (fun x => decide (x = ("setting" : Str))) = some 4 := by kernel_rfl
theorem hx4 (l0 l1 l2 l3 l5 l6 l7 l8 l : List D) : dIxX (.hdl 9) (.str "setting") (M9 l0 l1 l2 l3 l l5 l6 l7 l8) = .ok (.hdl 4) (M9 l0 l1 l2 l3 l l5 l6 l7 l8) := by kernel_rfl
theorem ha4 (l0 l1 l2 l3 l5 l6 l7 l8 l : List D) (t : D) (h : l.length ≤ 1000) : dbm "list" mAppend (dc (.hdl 4)) (aCons (dc t) aNil) [] (M9 l0 l1 l2 l3 l l5 l6 l7 l8) = .ok .non (M9 l0 l1 l2 l3 (l ++ [t]) l5 l6 l7 l8) := by
 simp [M9, tyD, mAppend, show l.length < 1000000 by omega]
theorem hp5 : tx_ORDER.findIdx? (fun x => decide (x = ("aside" : Str))) = some 5 := by kernel_rfl
theorem hx5 (l0 l1 l2 l3 l4 l6 l7 l8 l : List D) : dIxX (.hdl 9) (.str "aside") (M9 l0 l1 l2 l3 l4 l l6 l7 l8) = .ok (.hdl 5) (M9 l0 l1 l2 l3 l4 l l6 l7 l8) := by kernel_rfl
theorem ha5 (l0 l1 l2 l3 l4 l6 l7 l8 l : List D) (t : D) (h : l.length ≤ 1000) : dbm "list" mAppend (dc (.hdl 5)) (aCons (dc t) aNil) [] (M9 l0 l1 l2 l3 l4 l l6 l7 l8) = .ok .non (M9 l0 l1 l2 l3 l4 (l ++ [t]) l6 l7 l8) := by
 simp [M9, tyD, mAppend, show l.length < 1000000 by omega]
theorem hp6 : tx_ORDER.findIdx? (fun x => decide (x = ("choice" : Str))) = some 6 := by kernel_rfl
theorem hx6 (l0 l1 l2 l3 l4 l5 l7 l8 l : List D) : dIxX (.hdl 9) (.str "choice") (M9 l0 l1 l2 l3 l4 l5 l l7 l8) = .ok (.hdl 6) (M9 l0 l1 l2 l3 l4 l5 l l7 l8) := by kernel_rfl
theorem ha6 (l0 l1 l2 l3 l4 l5 l7 l8 l : List D) (t : D) (h : l.length ≤ 1000) : dbm "list" mAppend (dc (.hdl 6)) (aCons (dc t) aNil) [] (M9 l0 l1 l2 l3 l4 l5 l l7 l8) = .ok .non (M9 l0 l1 l2 l3 l4 l5 (l ++ [t]) l7 l8) := by
 simp [M9, tyD, mAppend, show l.length < 1000000 by omega]
theorem hp7 : tx_ORDER.findIdx? (fun x => decide (x = ("call" : Str))) = some 7 := by kernel_rfl
theorem hx7 (l0 l1 l2 l3 l4 l5 l6 l8 l : List D) : dIxX (.hdl 9) (.str "call") (M9 l0 l1 l2 l3 l4 l5 l6 l l8) = .ok (.hdl 7) (M9 l0 l1 l2 l3 l4 l5 l6 l l8) := by kernel_rfl
theorem ha7 (l0 l1 l2 l3 l4 l5 l6 l8 l : List D) (t : D) (h : l.length ≤ 1000) : dbm "list" mAppend (dc (.hdl 7)) (aCons (dc t) aNil) [] (M9 l0 l1 l2 l3 l4 l5 l6 l l8) = .ok .non (M9 l0 l1 l2 l3 l4 l5 l6 (l ++ [t]) l8) := by
 simp [M9, tyD, mAppend, show l.length < 1000000 by omega]
theorem hp8 : tx_ORDER.findIdx? (fun x => decide (x = ("deed" : Str))) = some 8 := by kernel_rfl
theorem hx8 (l0 l1 l2 l3 l4 l5 l6 l7 l : List D) : dIxX (.hdl 9) (.str "deed") (M9 l0 l1 l2 l3 l4 l5 l6 l7 l) = .ok (.hdl 8) (M9 l0 l1 l2 l3 l4 l5 l6 l7 l) := by kernel_rfl
theorem ha8 (l0 l1 l2 l3 l4 l5 l6 l7 l : List D) (t : D) (h : l.length ≤ 1000) : dbm "list" mAppend (dc (.hdl 8)) (aCons (dc t) aNil) [] (M9 l0 l1 l2 l3 l4 l5 l6 l7 l) = .ok .non (M9 l0 l1 l2 l3 l4 l5 l6 l7 (l ++ [t])) := by
 simp [M9, tyD, mAppend, show l.length < 1000000 by omega]
theorem rp3_is (t f n y rs : D) : rp3 [some t, none, none, none, some f, some n, some y, none, none, none, none, none, none, none, none, none, none, none, none, some rs, none] [] = .nx [some t, some (.hdl 9), none, none, some f, some n, some y, none, none, none, none, none, none, none, none, none, none, none, none, some rs, none] (M9 [] [] [] [] [] [] [] [] []) := by kernel_rfl
section
variable {l0 l1 l2 l3 l4 l5 l6 l7 l8 : List D} (hs : l0.length ≤ 1000 ∧ l1.length ≤ 1000 ∧ l2.length ≤ 1000 ∧ l3.length ≤ 1000 ∧ l4.length ≤ 1000 ∧ l5.length ≤ 1000 ∧ l6.length ≤ 1000 ∧ l7.length ≤ 1000 ∧ l8.length ≤ 1000)
include hs
theorem tu0 : bTupleX [.hdl 0] (M9 l0 l1 l2 l3 l4 l5 l6 l7 l8) = .ok (.tup l0) (M9 l0 l1 l2 l3 l4 l5 l6 l7 l8) := tupleX_hdl rfl (by omega)
theorem tu1 : bTupleX [.hdl 1] (M9 l0 l1 l2 l3 l4 l5 l6 l7 l8) = .ok (.tup l1) (M9 l0 l1 l2 l3 l4 l5 l6 l7 l8) := tupleX_hdl rfl (by omega)
theorem tu2 : bTupleX [.hdl 2] (M9 l0 l1 l2 l3 l4 l5 l6 l7 l8) = .ok (.tup l2) (M9 l0 l1 l2 l3 l4 l5 l6 l7 l8) := tupleX_hdl rfl (by omega)
theorem tu3 : bTupleX [.hdl 3] (M9 l0 l1 l2 l3 l4 l5 l6 l7 l8) = .ok (.tup l3) (M9 l0 l1 l2 l3 l4 l5 l6 l7 l8) := tupleX_hdl rfl (by omega)
theorem tu4 : bTupleX [.hdl 4] (M9 l0 l1 l2 l3 l4 l5 l6 l7 l8) = .ok (.tup l4) (M9 l0 l1 l2 l3 l4 l5 l6 l7 l8) := tupleX_hdl rfl (by omega)
theorem tu5 : bTupleX [.hdl 5] (M9 l0 l1 l2 l3 l4 l5 l6 l7 l8) = .ok (.tup l5) (M9 l0 l1 l2 l3 l4 l5 l6 l7 l8) := tupleX_hdl rfl (by omega)
theorem tu6 : bTupleX [.hdl 6] (M9 l0 l1 l2 l3 l4 l5 l6 l7 l8) = .ok (.tup l6) (M9 l0 l1 l2 l3 l4 l5 l6 l7 l8) := tupleX_hdl rfl (by omega)
theorem tu7 : bTupleX [.hdl 7] (M9 l0 l1 l2 l3 l4 l5 l6 l7 l8) = .ok (.tup l7) (M9 l0 l1 l2 l3 l4 l5 l6 l7 l8) := tupleX_hdl rfl (by omega)
theorem tu8 : bTupleX [.hdl 8] (M9 l0 l1 l2 l3 l4 l5 l6 l7 l8) = .ok (.tup l8) (M9 l0 l1 l2 l3 l4 l5 l6 l7 l8) := tupleX_hdl rfl (by omega)
theorem rp6_lc (t0 p2 p3 p4 p5 p6 p7 p8 p9 p10 p11 p12 p13 p14 p15 p16 p17 p18 p19 : Option D) : lcD (.nm 20) tyes (dcallB bTupleX (aCons (dbin dIxX (dvar 1) (dvar 20)) aNil)) [t0, some (.hdl 9), p2, p3, p4, p5, p6, p7, p8, p9, p10, p11, p12, p13, p14, p15, p16, p17, p18, p19, none] [.str "needs", .str "ahead", .str "clashes", .str "file", .str "setting", .str "aside", .str "choice", .str "call", .str "deed"] (M9 l0 l1 l2 l3 l4 l5 l6 l7 l8) = .ok [.tup l0, .tup l1, .tup l2, .tup l3, .tup l4, .tup l5, .tup l6, .tup l7, .tup l8] (M9 l0 l1 l2 l3 l4 l5 l6 l7 l8) := by
 simp [lcD, hx0, hx1, hx2, hx3, hx4, hx5, hx6, hx7, hx8, tu0 hs, tu1 hs, tu2 hs, tu3 hs, tu4 hs, tu5 hs, tu6 hs, tu7 hs, tu8 hs]
theorem rp6_is (t f n y rs : D) (last : Int) (n7 r8 f9 : Option D) : rp6 (ev t f n y rs last n7 r8 f9) (M9 l0 l1 l2 l3 l4 l5 l6 l7 l8) = .nx [some t, some (.hdl 9), some (.int last), none, some f, some n, some y, n7, r8, f9, some (.tup l0), some (.tup l1), some (.tup l2), some (.tup l3), some (.tup l4), some (.tup l5), some (.tup l6), some (.tup l7), some (.tup l8), some rs, none] (M9 l0 l1 l2 l3 l4 l5 l6 l7 l8) := by
 unfold rp6 gasgL
 simp [ev, wipeD, rp6_lc hs]
end
end DL78
namespace DL78
open PySem PySem.Spec PyProof.Rows L2 DL
section
variable {d : Dg} (o : d.Ok)
include o
theorem rows_split : (d.qs.flatMap Pq.rows).map D.str = (((needsL d.a0 d.a1).map fun t => D.str (rowS "needs" t)) ++ (((needsL d.a2 d.a3).map fun t => D.str (rowS "ahead" t)) ++ (((clashL d.a8).map fun t => D.str (rowS "clashes" t)) ++ (((fileL d.a4 d.a9).map fun t => D.str (rowS "file" t)) ++ (((setL d.a5).map fun t => D.str (rowS "setting" t)) ++ (((asideL d.a6).map fun t => D.str (rowS "aside" t)) ++ (((choiceL d.a7 d.a4).map fun t => D.str (rowS "choice" t)) ++ (((callL d.a10).map fun t => D.str (rowS "call" t)) ++ (((deedL d.a11).map fun t => D.str (rowS "deed" t)) ++ []))))))))) := by
 simp [Dg.qs, Pq.rows, Function.comp_def]
theorem split_text : Txt.split d.text "\n" = headS d.name d.year :: d.qs.flatMap Pq.rows := by
 have h := rows_nl o
 exact TL.split_join (y := "\n") (s := 10) (S := []) (by decide +kernel) (by decide +kernel) (by simp) fun p hp => (h p hp).1
theorem text_len : d.text.length ≤ 1000000 := (join_small (fun x hx => (rows_nl o x hx).2) (all_len o)).2
theorem rp1_is (T : D) : rp1 [some (.str d.text), none, none, none, none, none, none, none, none, none, none, none, none, none, none, none, none, none, none, none, none] [] = .nx [some (.str d.text), none, none, none, some (.str (headS d.name d.year)), none, none, none, none, none, none, none, none, none, none, none, none, none, none, some (.lst ((d.qs.flatMap Pq.rows).map .str)), none] [] := by
 have c : 0 < ("\n" : Str).length ∧ d.text.length ≤ 1000000 ∧ (∀ y ∈ Txt.split d.text "\n", y.length ≤ 1000000) := ⟨by decide +kernel, text_len o, fun y hy => by
  rw [split_text o] at hy
  have := (rows_nl o y hy).2
  omega⟩
 have m : mSplit (.str d.text) [.str "\n"] [] = .ok (.lst (.str (headS d.name d.year) :: (d.qs.flatMap Pq.rows).map .str)) [] := by
  unfold mSplit
  dsimp only
  rw [if_pos c, split_text o]
  rfl
 unfold rp1 gstar
 simp [tyD, m]
theorem rp2_is (rs : Option D) : rp2 [some (.str d.text), none, none, none, some (.str (headS d.name d.year)), none, none, none, none, none, none, none, none, none, none, none, none, none, none, rs, none] [] = .nx [some (.str d.text), none, none, none, some (.str (headS d.name d.year)), some (.str d.name), some (.int d.year), none, none, none, none, none, none, none, none, none, none, none, none, rs, none] [] := by
 have f := at_fam hd_first (mem9 o)
 dsimp only at f
 unfold rp2 rp2e
 rw [ap_asgT, ap_call, ap_aCons, ap_var]
 simp only [List.getElem?_cons_succ, List.getElem?_cons_zero, R.bind_ok, ap_aNil, List.append_nil]
 rw [f, R.to_ok]
 simp only [asg_tp, asgL_cons, asgL_nil, asg_nm, Option.bind_some, List.set_cons_succ, List.set_cons_zero]
theorem rp5_is : ∃ (last : Int) (n7 r8 f9 : Option D), forD (.tp [.nm 7, .nm 8]) rp5b (enumD 1 ((d.qs.flatMap Pq.rows).map .str)) (ev (.str d.text) (.str (headS d.name d.year)) (.str d.name) (.int d.year) (.lst ((d.qs.flatMap Pq.rows).map .str)) 0 none none none) (M9 [] [] [] [] [] [] [] [] []) = .nx (ev (.str d.text) (.str (headS d.name d.year)) (.str d.name) (.int d.year) (.lst ((d.qs.flatMap Pq.rows).map .str)) last n7 r8 f9) (M9 (needsL d.a0 d.a1) (needsL d.a2 d.a3) (clashL d.a8) (fileL d.a4 d.a9) (setL d.a5) (asideL d.a6) (choiceL d.a7 d.a4) (callL d.a10) (deedL d.a11)) := by
 have q := qs_ok o
 simp only [Dg.qs, List.forall_mem_cons] at q
 obtain ⟨q0, q1, q2, q3, q4, q5, q6, q7, q8, _⟩ := q
 generalize hrs : (.lst ((d.qs.flatMap Pq.rows).map .str) : D) = rs
 rw [rows_split o]
 obtain ⟨last0, k0, n0, r0, f0, h0, e0⟩ := rows_loop (Mp := fun l => M9 l [] [] [] [] [] [] [] []) hp0 (fun l => hx0 [] [] [] [] [] [] [] [] l) (fun l t h => ha0 [] [] [] [] [] [] [] [] l t h) (T := .str d.text) (f := .str (headS d.name d.year)) (n := .str d.name) (y := .int d.year) (rs := rs) (needsL d.a0 d.a1) (((needsL d.a2 d.a3).map fun t => D.str (rowS "ahead" t)) ++ (((clashL d.a8).map fun t => D.str (rowS "clashes" t)) ++ (((fileL d.a4 d.a9).map fun t => D.str (rowS "file" t)) ++ (((setL d.a5).map fun t => D.str (rowS "setting" t)) ++ (((asideL d.a6).map fun t => D.str (rowS "aside" t)) ++ (((choiceL d.a7 d.a4).map fun t => D.str (rowS "choice" t)) ++ (((callL d.a10).map fun t => D.str (rowS "call" t)) ++ (((deedL d.a11).map fun t => D.str (rowS "deed" t)) ++ [])))))))) [] 0 1 none none none q0.fam (by omega) (by have g := q0.len; dsimp only at g; simp only [List.length_nil]; omega)
 simp only [List.nil_append] at e0
 obtain ⟨last1, k1, n1, r1, f1, h1, e1⟩ := rows_loop (Mp := fun l => M9 (needsL d.a0 d.a1) l [] [] [] [] [] [] []) hp1 (fun l => hx1 (needsL d.a0 d.a1) [] [] [] [] [] [] [] l) (fun l t h => ha1 (needsL d.a0 d.a1) [] [] [] [] [] [] [] l t h) (T := .str d.text) (f := .str (headS d.name d.year)) (n := .str d.name) (y := .int d.year) (rs := rs) (needsL d.a2 d.a3) (((clashL d.a8).map fun t => D.str (rowS "clashes" t)) ++ (((fileL d.a4 d.a9).map fun t => D.str (rowS "file" t)) ++ (((setL d.a5).map fun t => D.str (rowS "setting" t)) ++ (((asideL d.a6).map fun t => D.str (rowS "aside" t)) ++ (((choiceL d.a7 d.a4).map fun t => D.str (rowS "choice" t)) ++ (((callL d.a10).map fun t => D.str (rowS "call" t)) ++ (((deedL d.a11).map fun t => D.str (rowS "deed" t)) ++ []))))))) [] last0 k0 n0 r0 f0 q1.fam (by omega) (by have g := q1.len; dsimp only at g; simp only [List.length_nil]; omega)
 simp only [List.nil_append] at e1
 obtain ⟨last2, k2, n2, r2, f2, h2, e2⟩ := rows_loop (Mp := fun l => M9 (needsL d.a0 d.a1) (needsL d.a2 d.a3) l [] [] [] [] [] []) hp2 (fun l => hx2 (needsL d.a0 d.a1) (needsL d.a2 d.a3) [] [] [] [] [] [] l) (fun l t h => ha2 (needsL d.a0 d.a1) (needsL d.a2 d.a3) [] [] [] [] [] [] l t h) (T := .str d.text) (f := .str (headS d.name d.year)) (n := .str d.name) (y := .int d.year) (rs := rs) (clashL d.a8) (((fileL d.a4 d.a9).map fun t => D.str (rowS "file" t)) ++ (((setL d.a5).map fun t => D.str (rowS "setting" t)) ++ (((asideL d.a6).map fun t => D.str (rowS "aside" t)) ++ (((choiceL d.a7 d.a4).map fun t => D.str (rowS "choice" t)) ++ (((callL d.a10).map fun t => D.str (rowS "call" t)) ++ (((deedL d.a11).map fun t => D.str (rowS "deed" t)) ++ [])))))) [] last1 k1 n1 r1 f1 q2.fam (by omega) (by have g := q2.len; dsimp only at g; simp only [List.length_nil]; omega)
 simp only [List.nil_append] at e2
 obtain ⟨last3, k3, n3, r3, f3, h3, e3⟩ := rows_loop (Mp := fun l => M9 (needsL d.a0 d.a1) (needsL d.a2 d.a3) (clashL d.a8) l [] [] [] [] []) hp3 (fun l => hx3 (needsL d.a0 d.a1) (needsL d.a2 d.a3) (clashL d.a8) [] [] [] [] [] l) (fun l t h => ha3 (needsL d.a0 d.a1) (needsL d.a2 d.a3) (clashL d.a8) [] [] [] [] [] l t h) (T := .str d.text) (f := .str (headS d.name d.year)) (n := .str d.name) (y := .int d.year) (rs := rs) (fileL d.a4 d.a9) (((setL d.a5).map fun t => D.str (rowS "setting" t)) ++ (((asideL d.a6).map fun t => D.str (rowS "aside" t)) ++ (((choiceL d.a7 d.a4).map fun t => D.str (rowS "choice" t)) ++ (((callL d.a10).map fun t => D.str (rowS "call" t)) ++ (((deedL d.a11).map fun t => D.str (rowS "deed" t)) ++ []))))) [] last2 k2 n2 r2 f2 q3.fam (by omega) (by have g := q3.len; dsimp only at g; simp only [List.length_nil]; omega)
 simp only [List.nil_append] at e3
 obtain ⟨last4, k4, n4, r4, f4, h4, e4⟩ := rows_loop (Mp := fun l => M9 (needsL d.a0 d.a1) (needsL d.a2 d.a3) (clashL d.a8) (fileL d.a4 d.a9) l [] [] [] []) hp4 (fun l => hx4 (needsL d.a0 d.a1) (needsL d.a2 d.a3) (clashL d.a8) (fileL d.a4 d.a9) [] [] [] [] l) (fun l t h => ha4 (needsL d.a0 d.a1) (needsL d.a2 d.a3) (clashL d.a8) (fileL d.a4 d.a9) [] [] [] [] l t h) (T := .str d.text) (f := .str (headS d.name d.year)) (n := .str d.name) (y := .int d.year) (rs := rs) (setL d.a5) (((asideL d.a6).map fun t => D.str (rowS "aside" t)) ++ (((choiceL d.a7 d.a4).map fun t => D.str (rowS "choice" t)) ++ (((callL d.a10).map fun t => D.str (rowS "call" t)) ++ (((deedL d.a11).map fun t => D.str (rowS "deed" t)) ++ [])))) [] last3 k3 n3 r3 f3 q4.fam (by omega) (by have g := q4.len; dsimp only at g; simp only [List.length_nil]; omega)
 simp only [List.nil_append] at e4
 obtain ⟨last5, k5, n5, r5, f5, h5, e5⟩ := rows_loop (Mp := fun l => M9 (needsL d.a0 d.a1) (needsL d.a2 d.a3) (clashL d.a8) (fileL d.a4 d.a9) (setL d.a5) l [] [] []) hp5 (fun l => hx5 (needsL d.a0 d.a1) (needsL d.a2 d.a3) (clashL d.a8) (fileL d.a4 d.a9) (setL d.a5) [] [] [] l) (fun l t h => ha5 (needsL d.a0 d.a1) (needsL d.a2 d.a3) (clashL d.a8) (fileL d.a4 d.a9) (setL d.a5) [] [] [] l t h) (T := .str d.text) (f := .str (headS d.name d.year)) (n := .str d.name) (y := .int d.year) (rs := rs) (asideL d.a6) (((choiceL d.a7 d.a4).map fun t => D.str (rowS "choice" t)) ++ (((callL d.a10).map fun t => D.str (rowS "call" t)) ++ (((deedL d.a11).map fun t => D.str (rowS "deed" t)) ++ []))) [] last4 k4 n4 r4 f4 q5.fam (by omega) (by have g := q5.len; dsimp only at g; simp only [List.length_nil]; omega)
 simp only [List.nil_append] at e5
 obtain ⟨last6, k6, n6, r6, f6, h6, e6⟩ := rows_loop (Mp := fun l => M9 (needsL d.a0 d.a1) (needsL d.a2 d.a3) (clashL d.a8) (fileL d.a4 d.a9) (setL d.a5) (asideL d.a6) l [] []) hp6 (fun l => hx6 (needsL d.a0 d.a1) (needsL d.a2 d.a3) (clashL d.a8) (fileL d.a4 d.a9) (setL d.a5) (asideL d.a6) [] [] l) (fun l t h => ha6 (needsL d.a0 d.a1) (needsL d.a2 d.a3) (clashL d.a8) (fileL d.a4 d.a9) (setL d.a5) (asideL d.a6) [] [] l t h) (T := .str d.text) (f := .str (headS d.name d.year)) (n := .str d.name) (y := .int d.year) (rs := rs) (choiceL d.a7 d.a4) (((callL d.a10).map fun t => D.str (rowS "call" t)) ++ (((deedL d.a11).map fun t => D.str (rowS "deed" t)) ++ [])) [] last5 k5 n5 r5 f5 q6.fam (by omega) (by have g := q6.len; dsimp only at g; simp only [List.length_nil]; omega)
 simp only [List.nil_append] at e6
 obtain ⟨last7, k7, n7, r7, f7, h7, e7⟩ := rows_loop (Mp := fun l => M9 (needsL d.a0 d.a1) (needsL d.a2 d.a3) (clashL d.a8) (fileL d.a4 d.a9) (setL d.a5) (asideL d.a6) (choiceL d.a7 d.a4) l []) hp7 (fun l => hx7 (needsL d.a0 d.a1) (needsL d.a2 d.a3) (clashL d.a8) (fileL d.a4 d.a9) (setL d.a5) (asideL d.a6) (choiceL d.a7 d.a4) [] l) (fun l t h => ha7 (needsL d.a0 d.a1) (needsL d.a2 d.a3) (clashL d.a8) (fileL d.a4 d.a9) (setL d.a5) (asideL d.a6) (choiceL d.a7 d.a4) [] l t h) (T := .str d.text) (f := .str (headS d.name d.year)) (n := .str d.name) (y := .int d.year) (rs := rs) (callL d.a10) (((deedL d.a11).map fun t => D.str (rowS "deed" t)) ++ []) [] last6 k6 n6 r6 f6 q7.fam (by omega) (by have g := q7.len; dsimp only at g; simp only [List.length_nil]; omega)
 simp only [List.nil_append] at e7
 obtain ⟨last8, k8, n8, r8, f8, h8, e8⟩ := rows_loop (Mp := fun l => M9 (needsL d.a0 d.a1) (needsL d.a2 d.a3) (clashL d.a8) (fileL d.a4 d.a9) (setL d.a5) (asideL d.a6) (choiceL d.a7 d.a4) (callL d.a10) l) hp8 (fun l => hx8 (needsL d.a0 d.a1) (needsL d.a2 d.a3) (clashL d.a8) (fileL d.a4 d.a9) (setL d.a5) (asideL d.a6) (choiceL d.a7 d.a4) (callL d.a10) l) (fun l t h => ha8 (needsL d.a0 d.a1) (needsL d.a2 d.a3) (clashL d.a8) (fileL d.a4 d.a9) (setL d.a5) (asideL d.a6) (choiceL d.a7 d.a4) (callL d.a10) l t h) (T := .str d.text) (f := .str (headS d.name d.year)) (n := .str d.name) (y := .int d.year) (rs := rs) (deedL d.a11) [] [] last7 k7 n7 r7 f7 q8.fam (by omega) (by have g := q8.len; dsimp only at g; simp only [List.length_nil]; omega)
 simp only [List.nil_append] at e8
 refine ⟨last8, n8, r8, f8, ?_⟩
 rw [e0, e1, e2, e3, e4, e5, e6, e7, e8]
 rw [enumD, forD]
theorem read_is (μ : Mu) : F_read_parcel [.str d.text] μ = .ok d.P μ := by
 obtain ⟨last, n7, r8, f9, lp⟩ := rp5_is o
 have q := qs_ok o
 simp only [Dg.qs, List.forall_mem_cons] at q
 obtain ⟨q0, q1, q2, q3, q4, q5, q6, q7, q8, _⟩ := q
 have hs : (needsL d.a0 d.a1).length ≤ 1000 ∧ (needsL d.a2 d.a3).length ≤ 1000 ∧ (clashL d.a8).length ≤ 1000 ∧ (fileL d.a4 d.a9).length ≤ 1000 ∧ (setL d.a5).length ≤ 1000 ∧ (asideL d.a6).length ≤ 1000 ∧ (choiceL d.a7 d.a4).length ≤ 1000 ∧ (callL d.a10).length ≤ 1000 ∧ (deedL d.a11).length ≤ 1000 := by
  have g0 := q0.len
  have g1 := q1.len
  have g2 := q2.len
  have g3 := q3.len
  have g4 := q4.len
  have g5 := q5.len
  have g6 := q6.len
  have g7 := q7.len
  have g8 := q8.len
  dsimp only at g0 g1 g2 g3 g4 g5 g6 g7 g8
  omega
 have cl := tups_closed o
 have cP : D.closed 0 d.P = true := by
  simp only [Dg.P, objP, D.closed, D.closedF, Bool.true_and, Bool.and_true]
  exact cl
 refine fr_ok (μ1 := M9 (needsL d.a0 d.a1) (needsL d.a2 d.a3) (clashL d.a8) (fileL d.a4 d.a9) (setL d.a5) (asideL d.a6) (choiceL d.a7 d.a4) (callL d.a10) (deedL d.a11)) (by simp [D.closedL, D.closed]) ?_ cP
 have s : startD 21 [.str d.text] = [some (.str d.text), none, none, none, none, none, none, none, none, none, none, none, none, none, none, none, none, none, none, none, none] := rfl
 have e0 : ∀ ρ : En, ρ[0]? = some (some (.str d.text)) → rp0 ρ [] = .nx ρ [] := fun ρ h => by
  unfold rp0
  simp [h, look_is]
 have e4 : ∀ (t f n y rs : D) (M : Mu), rp4 [some t, some (.hdl 9), none, none, some f, some n, some y, none, none, none, none, none, none, none, none, none, none, none, none, some rs, none] M = .nx (ev t f n y rs 0 none none none) M := fun t f n y rs M => rfl
 have e5 : rp5 (ev (.str d.text) (.str (headS d.name d.year)) (.str d.name) (.int d.year) (.lst ((d.qs.flatMap Pq.rows).map .str)) 0 none none none) (M9 [] [] [] [] [] [] [] [] []) = .nx (ev (.str d.text) (.str (headS d.name d.year)) (.str d.name) (.int d.year) (.lst ((d.qs.flatMap Pq.rows).map .str)) last n7 r8 f9) (M9 (needsL d.a0 d.a1) (needsL d.a2 d.a3) (clashL d.a8) (fileL d.a4 d.a9) (setL d.a5) (asideL d.a6) (choiceL d.a7 d.a4) (callL d.a10) (deedL d.a11)) := by
  unfold rp5 gfor
  have i5 : rp5i (ev (.str d.text) (.str (headS d.name d.year)) (.str d.name) (.int d.year) (.lst ((d.qs.flatMap Pq.rows).map .str)) 0 none none none) (M9 [] [] [] [] [] [] [] [] []) = .ok (enumD 1 ((d.qs.flatMap Pq.rows).map .str)) (M9 [] [] [] [] [] [] [] [] []) := by
   unfold rp5i itE1
   simp [ev]
  rw [i5, R.to_ok]
  exact lp
 have hM : closedMu (M9 (needsL d.a0 d.a1) (needsL d.a2 d.a3) (clashL d.a8) (fileL d.a4 d.a9) (setL d.a5) (asideL d.a6) (choiceL d.a7 d.a4) (callL d.a10) (deedL d.a11)).length (M9 (needsL d.a0 d.a1) (needsL d.a2 d.a3) (clashL d.a8) (fileL d.a4 d.a9) (setL d.a5) (asideL d.a6) (choiceL d.a7 d.a4) (callL d.a10) (deedL d.a11)) = true := by
  have c := ts_closed o
  simp only [Dg.ts, List.forall_mem_cons] at c
  obtain ⟨c0, c1, c2, c3, c4, c5, c6, c7, c8, _⟩ := c
  simp [M9, closedMu, MO.closed, pd9, clL_up 10 _ c0, clL_up 10 _ c1, clL_up 10 _ c2, clL_up 10 _ c3, clL_up 10 _ c4, clL_up 10 _ c5, clL_up 10 _ c6, clL_up 10 _ c7, clL_up 10 _ c8]
  simp [D.closedL, D.closed]
 have mk := make_is o hM
 have g7' : ∀ (rs : D), rp7 [some (.str d.text), some (.hdl 9), some (.int last), none, some (.str (headS d.name d.year)), some (.str d.name), some (.int d.year), n7, r8, f9, some (.tup (needsL d.a0 d.a1)), some (.tup (needsL d.a2 d.a3)), some (.tup (clashL d.a8)), some (.tup (fileL d.a4 d.a9)), some (.tup (setL d.a5)), some (.tup (asideL d.a6)), some (.tup (choiceL d.a7 d.a4)), some (.tup (callL d.a10)), some (.tup (deedL d.a11)), some rs, none] (M9 (needsL d.a0 d.a1) (needsL d.a2 d.a3) (clashL d.a8) (fileL d.a4 d.a9) (setL d.a5) (asideL d.a6) (choiceL d.a7 d.a4) (callL d.a10) (deedL d.a11)) = .rt d.P (M9 (needsL d.a0 d.a1) (needsL d.a2 d.a3) (clashL d.a8) (fileL d.a4 d.a9) (setL d.a5) (asideL d.a6) (choiceL d.a7 d.a4) (callL d.a10) (deedL d.a11)) := fun rs => by
  simp only [Dg.ts, List.map_cons, List.map_nil] at mk
  unfold rp7 gtry
  simp
  rw [mk]
  rfl
 rw [rp_is, s, ap_seq, e0 _ rfl, O.thn_nx, ap_seq, rp1_is o .non, O.thn_nx, ap_seq, rp2_is o, O.thn_nx, ap_seq, rp3_is, O.thn_nx, ap_seq, e4, O.thn_nx, ap_seq, e5, O.thn_nx, ap_seq, rp6_is hs, O.thn_nx, g7']
end
end DL78
namespace DL78
open PySem PySem.Spec PyProof.Rows L2 DL
theorem isi_obj (n e : D) (ps : List D) (μ : Mu) : bIsiO (.glo cC_Parcel) isAll (ktL yes_Parcel no_Parcel) [objP n e ps, .glo cC_Parcel] μ = .ok (.bl true) μ := by kernel_rfl
theorem ne_ints (a b : Int) (μ : Mu) : dNe (.int a) (.int b) μ = .ok (.bl (!decide (a = b))) μ := by simp [dNe, D.kd, scal]
theorem neX_ints (a b : Int) (μ : Mu) : dNeX (.int a) (.int b) μ = .ok (.bl (!decide (a = b))) μ := by simp [dNeX, D.kd, ne_ints]
theorem neX_strs (a b : Str) (μ : Mu) : dNeX (.str a) (.str b) μ = .ok (.bl (!decide (a = b))) μ := by simp [dNeX, D.kd]
abbrev Tm (n : Str) (e : Int) (ps : List D) : Prop := tm [11, 8, 3, 3] (.tup (.str n :: .int e :: ps)) = true
theorem Tm.parts {n : Str} {e : Int} {ps : List D} (h : Tm n e ps) : tm [11, 8, 3, 3] (.tup ps) = true := by
 simp only [Tm, tm, Bool.and_eq_true, decide_eq_true_eq, List.length_cons, List.all_cons] at h ⊢
 exact ⟨by omega, h.2.2.2⟩
theorem Tm.closed {n : Str} {e : Int} {ps : List D} (h : Tm n e ps) (k : Nat) : D.closedL k (.str n :: .int e :: ps) = true := by
 have := tm_closed _ _ k h
 simpa only [D.closed] using this
theorem eq_ok {n n' : Str} {e e' : Int} {ps ps' : List D} (h : Tm n e ps) (h' : Tm n' e' ps') (μ : Mu) : ∃ b, F_Parcel_eq [objP (.str n) (.int e) ps, objP (.str n') (.int e') ps'] μ = .ok (.bl b) μ ∧ (b = true ↔ n = n' ∧ e = e' ∧ ps = ps') := by
 obtain ⟨b, eb, ib⟩ := tm_dEq h.parts h'.parts (by decide) []
 have hc : D.closedL 0 [objP (.str n) (.int e) ps, objP (.str n') (.int e') ps'] = true := by
  have a1 := obj_closed (h.closed 0)
  have a2 := obj_closed (h'.closed 0)
  simp only [D.closedL] at a1 a2 ⊢
  simp at a1 a2
  simp [a1, a2]
 by_cases hn : n = n'
 ·by_cases he : e = e'
  ·refine ⟨b, fr_ok (μ1 := []) hc ?_ (by simp [D.closed]), ?_⟩
   ·simp [g_Parcel_eq, startD, -isiO_ap, isi_obj, at_name, at_edition, at_parts, neX_strs, neX_ints, hn, he, eb]
   ·rw [ib]; simp [hn, he]
  ·refine ⟨false, fr_ok (μ1 := []) hc ?_ (by simp [D.closed]), by simp [he]⟩
   simp [g_Parcel_eq, startD, -isiO_ap, isi_obj, at_name, at_edition, at_parts, neX_strs, neX_ints, hn, he]
 ·refine ⟨false, fr_ok (μ1 := []) hc ?_ (by simp [D.closed]), by simp [hn]⟩
  simp [g_Parcel_eq, startD, -isiO_ap, isi_obj, at_name, at_edition, at_parts, neX_strs, neX_ints, hn]
theorem neP_obj (n e n' e' : D) (ps ps' : List D) (μ : Mu) : neP cC_Parcel F_Parcel_eq right_Parcel (objP n e ps) (objP n' e' ps') μ = notB (F_Parcel_eq [objP n e ps, objP n' e' ps'] μ) := by
 have : Ty.own cC_Parcel ∈ right_Parcel := by decide +kernel
 simp [neP, ins_obj, neOwn, tyW, insD, objP, this]
theorem neP_str (x y : Str) (μ : Mu) : neP cC_Parcel F_Parcel_eq right_Parcel (.str x) (.str y) μ = .ok (.bl (!decide (x = y))) μ := by simp [neP, insD, neX_strs]
def ls0c : FT := (tor (dtest (dbin dNeC (dmeth cC_Parcel "called" F_Parcel_called [] (dvar 0) aNil) (dvar 1))) (dtest (dbin dNeC (dmeth cC_Parcel "edition" F_Parcel_edition [] (dvar 0) aNil) (dvar 2))))
def ls0 : FS := gif ls0c (gret (dc (.bl false))) gnil
def ls1e : FE := (dlst (aCons (dmeth cC_Parcel "needs" F_Parcel_needs [] (dvar 0) aNil) (aCons (dmeth cC_Parcel "ahead" F_Parcel_ahead [] (dvar 0) aNil) (aCons (dmeth cC_Parcel "clashes" F_Parcel_clashes [] (dvar 0) aNil) (aCons (dmeth cC_Parcel "files" F_Parcel_files [] (dvar 0) aNil) (aCons (dmeth cC_Parcel "settings" F_Parcel_settings [] (dvar 0) aNil) aNil))))))
def ls1 : FS := gasg (.nm 4) ls1e
def ls2e : FE := (dbin addX (dvar 4) (dlst (aCons (dmeth cC_Parcel "asides" F_Parcel_asides [] (dvar 0) aNil) (aCons (dmeth cC_Parcel "choices" F_Parcel_choices [] (dvar 0) aNil) (aCons (dmeth cC_Parcel "calls" F_Parcel_calls [] (dvar 0) aNil) (aCons (dmeth cC_Parcel "deeds" F_Parcel_deeds [] (dvar 0) aNil) aNil))))))
def ls2 : FS := gasg (.nm 4) ls2e
def ls3e : FE := (dlst (aCons (dbin dIxX (dvar 3) (dc (.str "needs"))) (aCons (dbin dIxX (dvar 3) (dc (.str "ahead"))) (aCons (dbin dIxX (dvar 3) (dc (.str "clashes"))) (aCons (dbin dIxX (dvar 3) (dc (.str "files"))) (aCons (dbin dIxX (dvar 3) (dc (.str "settings"))) aNil))))))
def ls3 : FS := gasg (.nm 5) ls3e
def ls4e : FE := (dbin dEqM (dcallB bReprM (aCons (dvar 4) aNil)) (dcallB bReprM (aCons (dbin addX (dvar 5) (dlst (aCons (dbin dIxX (dvar 3) (dc (.str "asides"))) (aCons (dbin dIxX (dvar 3) (dc (.str "choices"))) (aCons (dbin dIxX (dvar 3) (dc (.str "calls"))) (aCons (dbin dIxX (dvar 3) (dc (.str "deeds"))) aNil)))))) aNil)))
def ls4 : FS := gret ls4e
theorem ls_is : g_law_same = gseq ls0 (gseq ls1 (gseq ls2 (gseq ls3 ls4))) := rfl
theorem tm_tup (a : Nat) (as : List Nat) (xs : List D) : tm (a :: as) (.tup xs) = (decide (xs.length ≤ a) && xs.all (tm as)) := by simp only [tm]
theorem t_names : (names3.all fun n => tm [8, 3, 3] (.str n)) = true := by decide +kernel
theorem t_years : (years3.all fun n => tm [8, 3, 3] (.int n)) = true := by decide +kernel
theorem t_needs : ((two 5 3).all fun q => tm [8, 3, 3] (.tup (needsL q.1 q.2))) = true := by decide +kernel
theorem t_clash : ((List.range 5).all fun d => tm [8, 3, 3] (.tup (clashL d))) = true := by decide +kernel
theorem t_files : ((two 9 4).all fun q => tm [8, 3, 3] (.tup (fileL q.1 q.2))) = true := by decide +kernel
theorem t_rest : ((List.range 5).all fun n => tm [8, 3, 3] (.tup (setL n)) && (tm [8, 3, 3] (.tup (asideL n)) && (tm [8, 3, 3] (.tup (callL n)) && tm [8, 3, 3] (.tup (deedL n))))) = true := by decide +kernel
theorem t_choice : ((two 4 9).all fun q => tm [8, 3, 3] (.tup (choiceL q.1 q.2))) = true := by decide +kernel
theorem repr_lst {a : Nat} {as : List Nat} {xs : List D} (h : tm (a :: as) (.tup xs) = true) (h1 : (a :: as).length ≤ 40) (h2 : bulkB (a :: as) ≤ 60000) : ∃ x, ∀ μ, bReprM [.lst xs] μ = .ok (.str x) μ := by
 obtain ⟨p, e, q⟩ := tm_py _ _ h
 simp only [D.py] at e
 cases hp : D.pys xs with
 | none => rw [hp] at e; simp at e
 | some ps =>
  rw [hp] at e
  simp at e
  subst e
  have r := repr_short (d := .lst xs) (p := .list ps) (by simp [D.py, hp]) (by simpa [PyData.leavesShort] using q.h1) (by simpa [PyData.showable] using q.h2) (by simpa [PyData.hasDict] using q.h3) (by have := q.h4; simp [PyData.depth] at this ⊢; simp at h1; omega) (by have := q.h5; simp [PyData.bulk] at this ⊢; omega)
  exact ⟨_, fun μ => by simp [bReprM, bRepr, r]; rfl⟩
section
variable {d : Dg} (o : d.Ok)
include o
theorem ts_tm : ∀ l ∈ d.ts, tm [8, 3, 3] (.tup l) = true := by
 have r := fun n h => all_at t_rest (x := n) (List.mem_range.mpr h)
 simp only [Bool.and_eq_true] at r
 intro l hl
 simp only [Dg.ts, List.mem_cons, List.not_mem_nil, or_false] at hl
 rcases hl with rfl | rfl | rfl | rfl | rfl | rfl | rfl | rfl | rfl
 ·exact all_at t_needs (mem2 o.h0 o.h1)
 ·exact all_at t_needs (mem2 o.h2 o.h3)
 ·exact all_at t_clash (List.mem_range.mpr o.h8)
 ·exact all_at t_files (mem2 o.h4 o.h9)
 ·exact (r _ o.h5).1
 ·exact (r _ (Nat.lt_succ_of_lt o.h6)).2.1
 ·exact all_at t_choice (mem2 o.h7 o.h4)
 ·exact (r _ o.h10).2.2.1
 ·exact (r _ o.h11).2.2.2
theorem tups_tm : (d.ts.map D.tup).all (tm [8, 3, 3]) = true := List.all_eq_true.mpr fun x hx => by
 obtain ⟨l, hl, rfl⟩ := List.mem_map.mp hx
 exact ts_tm o l hl
theorem the_tm : Tm d.name d.year (d.ts.map .tup) := by
 unfold Tm
 rw [tm_tup, List.all_cons, List.all_cons, tups_tm o, all_at t_names (name_in o), all_at t_years (year_in o)]
 simp [Dg.ts]
theorem parts_tm : tm [9, 8, 3, 3] (.tup (d.ts.map .tup)) = true := by
 rw [tm_tup, tups_tm o]
 simp [Dg.ts]
theorem eq_self' (μ : Mu) : F_Parcel_eq [d.P, d.P] μ = .ok (.bl true) μ := by
 obtain ⟨b, e, h⟩ := eq_ok (the_tm o) (the_tm o) μ
 rw [e, h.mpr ⟨rfl, rfl, rfl⟩]
theorem ne_self (μ : Mu) : neP cC_Parcel F_Parcel_eq right_Parcel d.P d.P μ = .ok (.bl false) μ := by
 rw [neP_obj, eq_self' o]
 rfl
theorem cl_all : D.closedL 0 [.str d.name, .int d.year, .tup (needsL d.a0 d.a1), .tup (needsL d.a2 d.a3), .tup (clashL d.a8), .tup (fileL d.a4 d.a9), .tup (setL d.a5), .tup (asideL d.a6), .tup (choiceL d.a7 d.a4), .tup (callL d.a10), .tup (deedL d.a11)] = true := by
 have h := tups_closed o
 simp only [Dg.ts, List.map_cons, List.map_nil] at h
 simpa [D.closedL, D.closed] using h
theorem same_is : F_law_same [d.P, .str d.name, .int d.year, .hdl 0] [own (d.ts.map .tup)] = .ok (.bl true) [own (d.ts.map .tup)] := by
 obtain ⟨x, hx⟩ := repr_lst (parts_tm o) (by decide) (by decide)
 have h := cl_all o
 have tsE : d.ts.map D.tup = [.tup (needsL d.a0 d.a1), .tup (needsL d.a2 d.a3), .tup (clashL d.a8), .tup (fileL d.a4 d.a9), .tup (setL d.a5), .tup (asideL d.a6), .tup (choiceL d.a7 d.a4), .tup (callL d.a10), .tup (deedL d.a11)] := rfl
 have PE : d.P = objP (.str d.name) (.int d.year) [.tup (needsL d.a0 d.a1), .tup (needsL d.a2 d.a3), .tup (clashL d.a8), .tup (fileL d.a4 d.a9), .tup (setL d.a5), .tup (asideL d.a6), .tup (choiceL d.a7 d.a4), .tup (callL d.a10), .tup (deedL d.a11)] := rfl
 generalize hP : d.P = P at *
 have hx : ∀ μ, bReprM [.lst [.tup (needsL d.a0 d.a1), .tup (needsL d.a2 d.a3), .tup (clashL d.a8), .tup (fileL d.a4 d.a9), .tup (setL d.a5), .tup (asideL d.a6), .tup (choiceL d.a7 d.a4), .tup (callL d.a10), .tup (deedL d.a11)]] μ = .ok (.str x) μ := hx
 rw [tsE] at *
 have body : g_law_same (startD 6 [P, .str d.name, .int d.year, .hdl 0]) [own [.tup (needsL d.a0 d.a1), .tup (needsL d.a2 d.a3), .tup (clashL d.a8), .tup (fileL d.a4 d.a9), .tup (setL d.a5), .tup (asideL d.a6), .tup (choiceL d.a7 d.a4), .tup (callL d.a10), .tup (deedL d.a11)]] = .rt (.bl true) [own [.tup (needsL d.a0 d.a1), .tup (needsL d.a2 d.a3), .tup (clashL d.a8), .tup (fileL d.a4 d.a9), .tup (setL d.a5), .tup (asideL d.a6), .tup (choiceL d.a7 d.a4), .tup (callL d.a10), .tup (deedL d.a11)]] := by
  have hs : startD 6 [P, .str d.name, .int d.year, .hdl 0] = [some P, some (.str d.name), some (.int d.year), some (.hdl 0), none, none] := rfl
  subst PE
  have e0 : ls0 [some (objP (.str d.name) (.int d.year) [.tup (needsL d.a0 d.a1), .tup (needsL d.a2 d.a3), .tup (clashL d.a8), .tup (fileL d.a4 d.a9), .tup (setL d.a5), .tup (asideL d.a6), .tup (choiceL d.a7 d.a4), .tup (callL d.a10), .tup (deedL d.a11)]), some (.str d.name), some (.int d.year), some (.hdl 0), none, none] [own [.tup (needsL d.a0 d.a1), .tup (needsL d.a2 d.a3), .tup (clashL d.a8), .tup (fileL d.a4 d.a9), .tup (setL d.a5), .tup (asideL d.a6), .tup (choiceL d.a7 d.a4), .tup (callL d.a10), .tup (deedL d.a11)]] = .nx [some (objP (.str d.name) (.int d.year) [.tup (needsL d.a0 d.a1), .tup (needsL d.a2 d.a3), .tup (clashL d.a8), .tup (fileL d.a4 d.a9), .tup (setL d.a5), .tup (asideL d.a6), .tup (choiceL d.a7 d.a4), .tup (callL d.a10), .tup (deedL d.a11)]), some (.str d.name), some (.int d.year), some (.hdl 0), none, none] [own [.tup (needsL d.a0 d.a1), .tup (needsL d.a2 d.a3), .tup (clashL d.a8), .tup (fileL d.a4 d.a9), .tup (setL d.a5), .tup (asideL d.a6), .tup (choiceL d.a7 d.a4), .tup (callL d.a10), .tup (deedL d.a11)]] := by
   unfold ls0 ls0c
   simp only [ap_gif, ap_tor, ap_test, ap_bin, called_m h, edition_m h, ap_var, List.getElem?_cons_zero, List.getElem?_cons_succ, R.bind_ok, neC_str, neC_int, decide_true, Bool.not_true, R.to_ok, ap_nil]
   rfl
  have e1 : ls1 [some (objP (.str d.name) (.int d.year) [.tup (needsL d.a0 d.a1), .tup (needsL d.a2 d.a3), .tup (clashL d.a8), .tup (fileL d.a4 d.a9), .tup (setL d.a5), .tup (asideL d.a6), .tup (choiceL d.a7 d.a4), .tup (callL d.a10), .tup (deedL d.a11)]), some (.str d.name), some (.int d.year), some (.hdl 0), none, none] [own [.tup (needsL d.a0 d.a1), .tup (needsL d.a2 d.a3), .tup (clashL d.a8), .tup (fileL d.a4 d.a9), .tup (setL d.a5), .tup (asideL d.a6), .tup (choiceL d.a7 d.a4), .tup (callL d.a10), .tup (deedL d.a11)]] = .nx [some (objP (.str d.name) (.int d.year) [.tup (needsL d.a0 d.a1), .tup (needsL d.a2 d.a3), .tup (clashL d.a8), .tup (fileL d.a4 d.a9), .tup (setL d.a5), .tup (asideL d.a6), .tup (choiceL d.a7 d.a4), .tup (callL d.a10), .tup (deedL d.a11)]), some (.str d.name), some (.int d.year), some (.hdl 0), some (.lst [.tup (needsL d.a0 d.a1), .tup (needsL d.a2 d.a3), .tup (clashL d.a8), .tup (fileL d.a4 d.a9), .tup (setL d.a5)]), none] [own [.tup (needsL d.a0 d.a1), .tup (needsL d.a2 d.a3), .tup (clashL d.a8), .tup (fileL d.a4 d.a9), .tup (setL d.a5), .tup (asideL d.a6), .tup (choiceL d.a7 d.a4), .tup (callL d.a10), .tup (deedL d.a11)]] := by
   unfold ls1 ls1e
   simp only [ap_set, ap_lst, ap_aCons, ap_aNil, R.bind_ok, List.getElem?_cons_zero, needs_m h, ahead_m h, clashes_m h, files_m h, settings_m h]
   rfl
  have e2 : ls2 [some (objP (.str d.name) (.int d.year) [.tup (needsL d.a0 d.a1), .tup (needsL d.a2 d.a3), .tup (clashL d.a8), .tup (fileL d.a4 d.a9), .tup (setL d.a5), .tup (asideL d.a6), .tup (choiceL d.a7 d.a4), .tup (callL d.a10), .tup (deedL d.a11)]), some (.str d.name), some (.int d.year), some (.hdl 0), some (.lst [.tup (needsL d.a0 d.a1), .tup (needsL d.a2 d.a3), .tup (clashL d.a8), .tup (fileL d.a4 d.a9), .tup (setL d.a5)]), none] [own [.tup (needsL d.a0 d.a1), .tup (needsL d.a2 d.a3), .tup (clashL d.a8), .tup (fileL d.a4 d.a9), .tup (setL d.a5), .tup (asideL d.a6), .tup (choiceL d.a7 d.a4), .tup (callL d.a10), .tup (deedL d.a11)]] = .nx [some (objP (.str d.name) (.int d.year) [.tup (needsL d.a0 d.a1), .tup (needsL d.a2 d.a3), .tup (clashL d.a8), .tup (fileL d.a4 d.a9), .tup (setL d.a5), .tup (asideL d.a6), .tup (choiceL d.a7 d.a4), .tup (callL d.a10), .tup (deedL d.a11)]), some (.str d.name), some (.int d.year), some (.hdl 0), some (.lst [.tup (needsL d.a0 d.a1), .tup (needsL d.a2 d.a3), .tup (clashL d.a8), .tup (fileL d.a4 d.a9), .tup (setL d.a5), .tup (asideL d.a6), .tup (choiceL d.a7 d.a4), .tup (callL d.a10), .tup (deedL d.a11)]), none] [own [.tup (needsL d.a0 d.a1), .tup (needsL d.a2 d.a3), .tup (clashL d.a8), .tup (fileL d.a4 d.a9), .tup (setL d.a5), .tup (asideL d.a6), .tup (choiceL d.a7 d.a4), .tup (callL d.a10), .tup (deedL d.a11)]] := by
   unfold ls2 ls2e
   simp only [ap_set, ap_bin, ap_var, ap_lst, ap_aCons, ap_aNil, R.bind_ok, asides_m h, choices_m h, calls_m h, deeds_m h, List.getElem?_cons_zero, List.getElem?_cons_succ]
   rfl
  have e3 : ∀ (s4 : Option D), ls3 [some (objP (.str d.name) (.int d.year) [.tup (needsL d.a0 d.a1), .tup (needsL d.a2 d.a3), .tup (clashL d.a8), .tup (fileL d.a4 d.a9), .tup (setL d.a5), .tup (asideL d.a6), .tup (choiceL d.a7 d.a4), .tup (callL d.a10), .tup (deedL d.a11)]), some (.str d.name), some (.int d.year), some (.hdl 0), s4, none] [own [.tup (needsL d.a0 d.a1), .tup (needsL d.a2 d.a3), .tup (clashL d.a8), .tup (fileL d.a4 d.a9), .tup (setL d.a5), .tup (asideL d.a6), .tup (choiceL d.a7 d.a4), .tup (callL d.a10), .tup (deedL d.a11)]] = .nx [some (objP (.str d.name) (.int d.year) [.tup (needsL d.a0 d.a1), .tup (needsL d.a2 d.a3), .tup (clashL d.a8), .tup (fileL d.a4 d.a9), .tup (setL d.a5), .tup (asideL d.a6), .tup (choiceL d.a7 d.a4), .tup (callL d.a10), .tup (deedL d.a11)]), some (.str d.name), some (.int d.year), some (.hdl 0), s4, some (.lst [.tup (needsL d.a0 d.a1), .tup (needsL d.a2 d.a3), .tup (clashL d.a8), .tup (fileL d.a4 d.a9), .tup (setL d.a5)])] [own [.tup (needsL d.a0 d.a1), .tup (needsL d.a2 d.a3), .tup (clashL d.a8), .tup (fileL d.a4 d.a9), .tup (setL d.a5), .tup (asideL d.a6), .tup (choiceL d.a7 d.a4), .tup (callL d.a10), .tup (deedL d.a11)]] := by
   intro s4
   unfold ls3 ls3e
   simp only [ap_set, ap_lst, ap_bin, ap_var, ap_dc, ap_aCons, ap_aNil, R.bind_ok, ow0, ow1, ow2, ow3, ow4, List.getElem?_cons_zero, List.getElem?_cons_succ]
   rfl
  have ad : ∀ μ, addX (.lst [.tup (needsL d.a0 d.a1), .tup (needsL d.a2 d.a3), .tup (clashL d.a8), .tup (fileL d.a4 d.a9), .tup (setL d.a5)]) (.lst [.tup (asideL d.a6), .tup (choiceL d.a7 d.a4), .tup (callL d.a10), .tup (deedL d.a11)]) μ = .ok (.lst [.tup (needsL d.a0 d.a1), .tup (needsL d.a2 d.a3), .tup (clashL d.a8), .tup (fileL d.a4 d.a9), .tup (setL d.a5), .tup (asideL d.a6), .tup (choiceL d.a7 d.a4), .tup (callL d.a10), .tup (deedL d.a11)]) μ := fun μ => rfl
  rw [ls_is, hs, ap_seq, e0, O.thn_nx, ap_seq, e1, O.thn_nx, ap_seq, e2, O.thn_nx, ap_seq, e3, O.thn_nx]
  unfold ls4 ls4e
  simp only [ap_ret, ap_bin, ap_callB, ap_lst, ap_var, ap_dc, ap_aCons, ap_aNil, R.bind_ok, ow5, ow6, ow7, ow8, List.getElem?_cons_zero, List.getElem?_cons_succ, List.length_cons, List.length_nil, show ((0 + 1 + 1 + 1 + 1 : Nat) ≤ 1000000) = True from by decide, if_true, ad, hx, eqM_str, decide_true, R.to_ok]
 unfold F_law_same
 rw [framed_open (by subst PE; simp [D.closedL, D.closed])]
 rw [callF_eq _ _ _ _ _ _ body]
 exact trunc_same (Nat.le_refl _)
end
end DL78
namespace DL78
open PySem PySem.Spec PyProof.Rows L2 DL
def gr0e : FE := (dcall F_law_parts [] (aCons (dvar 3) aNil))
def gr0 : FS := gasg (.nm 4) gr0e
def gr1 : FS := (gpar 8 9 (aCons (dbin dIxX (dlst (aCons (dc (.str "w")) (aCons (dc (.str "who")) (aCons (dc (.str "abcdefgh")) aNil)))) (dbin dIxX (dvar 3) (dc (.int 12)))) (aCons (dbin dIxX (dlst (aCons (dc (.int 1)) (aCons (dc (.int 42)) (aCons (dc (.int 999)) aNil)))) (dbin dIxX (dvar 3) (dc (.int 13)))) aNil)))
def gr2e : FE := (dcall F_law_parcel [] (aCons (dvar 8) (aCons (dvar 9) (aCons (dvar 4) aNil))))
def gr2 : FS := gasg (.nm 5) gr2e
def gr3e : FE := (dcall F_law_text [] (aCons (dvar 8) (aCons (dvar 9) (aCons (dvar 4) aNil))))
def gr3 : FS := gasg (.nm 6) gr3e
def gr4c : FT := (dtest (dbin (neP cC_Parcel F_Parcel_eq right_Parcel) (dcall F_show_parcel [] (aCons (dvar 5) aNil)) (dvar 6)))
def gr4 : FS := gif gr4c (gret (dc (.bl false))) gnil
def gr5i : FA := (itA (dlst (aCons (dcall F_read_parcel [] (aCons (dvar 6) aNil)) (aCons (dcall F_read_parcel [] (aCons (dcall F_show_parcel [] (aCons (dvar 5) aNil)) aNil)) aNil))))
def gr5b : FS := (gif (tor (dtest (dbin (neP cC_Parcel F_Parcel_eq right_Parcel) (dvar 7) (dvar 5))) (tor (tnot (dtest (dcall F_law_same [] (aCons (dvar 7) (aCons (dvar 8) (aCons (dvar 9) (aCons (dvar 4) aNil))))))) (dtest (dbin (neP cC_Parcel F_Parcel_eq right_Parcel) (dcall F_show_parcel [] (aCons (dvar 7) aNil)) (dvar 6))))) (gret (dc (.bl false))) gnil)
def gr5 : FS := gfor gr5i (.nm 7) gr5b
theorem gr_is : g_rest = gseq gr0 (gseq gr1 (gseq gr2 (gseq gr3 (gseq gr4 gr5)))) := rfl
theorem ap_itEX (f : FA) (ρ : En) (μ : Mu) : itEX f ρ μ = (f ρ μ).bind fun ds μ1 => match ds with
 | [.tup xs] => .ok (enumD 0 xs) μ1
 | [.lst xs] => .ok (enumD 0 xs) μ1
 | [.str x] => .ok (enumD 0 (signs x)) μ1
 | _ => .bad := rfl
theorem digits_at (c t : Int) (ss : List D) : callF 9 g_law_digits [.int c, .int t, .lst ss] [] = callF 9 gDigX [.int c, .int t, .lst ss] [] := by
 have h : g_law_digits (startD 9 [.int c, .int t, .lst ss]) [] = gDigX (startD 9 [.int c, .int t, .lst ss]) [] := by
  simp [g_law_digits, gDigX, bDigX, startD, ap_itEX]
 unfold callF
 rw [h]
theorem nat_of {n s : Int} (h0 : 0 ≤ n) (h1 : n < s) : ∃ a : Nat, n = Int.ofNat a ∧ (a : Int) < s := ⟨n.toNat, by show n = (n.toNat : Int); omega, by omega⟩
theorem digits (c : Int) (i : Nat) (hi : i < 100) : ∃ d : Dg, d.Ok ∧ F_law_digits [.int c, .int i, .lst [.int 5, .int 3, .int 5, .int 3, .int 9, .int 5, .int 4, .int 4, .int 5, .int 4, .int 5, .int 5, .int 3, .int 3]] [] = .ok (.lst d.vec) [] := by
 obtain ⟨ns, hl, hb, e⟩ := digX_ok c i ⟨by omega, by omega⟩ [5, 3, 5, 3, 9, 5, 4, 4, 5, 4, 5, 5, 3, 3] (by decide) (by decide) [] rfl
 match ns, hl, hb, e with
 | [n0, n1, n2, n3, n4, n5, n6, n7, n8, n9, n10, n11, n12, n13], _, hb, e =>
  obtain ⟨p0, q0⟩ := hb 0 n0 5 rfl rfl
  obtain ⟨a0, rfl, w0⟩ := nat_of p0 q0
  obtain ⟨p1, q1⟩ := hb 1 n1 3 rfl rfl
  obtain ⟨a1, rfl, w1⟩ := nat_of p1 q1
  obtain ⟨p2, q2⟩ := hb 2 n2 5 rfl rfl
  obtain ⟨a2, rfl, w2⟩ := nat_of p2 q2
  obtain ⟨p3, q3⟩ := hb 3 n3 3 rfl rfl
  obtain ⟨a3, rfl, w3⟩ := nat_of p3 q3
  obtain ⟨p4, q4⟩ := hb 4 n4 9 rfl rfl
  obtain ⟨a4, rfl, w4⟩ := nat_of p4 q4
  obtain ⟨p5, q5⟩ := hb 5 n5 5 rfl rfl
  obtain ⟨a5, rfl, w5⟩ := nat_of p5 q5
  obtain ⟨p6, q6⟩ := hb 6 n6 4 rfl rfl
  obtain ⟨a6, rfl, w6⟩ := nat_of p6 q6
  obtain ⟨p7, q7⟩ := hb 7 n7 4 rfl rfl
  obtain ⟨a7, rfl, w7⟩ := nat_of p7 q7
  obtain ⟨p8, q8⟩ := hb 8 n8 5 rfl rfl
  obtain ⟨a8, rfl, w8⟩ := nat_of p8 q8
  obtain ⟨p9, q9⟩ := hb 9 n9 4 rfl rfl
  obtain ⟨a9, rfl, w9⟩ := nat_of p9 q9
  obtain ⟨p10, q10⟩ := hb 10 n10 5 rfl rfl
  obtain ⟨a10, rfl, w10⟩ := nat_of p10 q10
  obtain ⟨p11, q11⟩ := hb 11 n11 5 rfl rfl
  obtain ⟨a11, rfl, w11⟩ := nat_of p11 q11
  obtain ⟨p12, q12⟩ := hb 12 n12 3 rfl rfl
  obtain ⟨a12, rfl, w12⟩ := nat_of p12 q12
  obtain ⟨p13, q13⟩ := hb 13 n13 3 rfl rfl
  obtain ⟨a13, rfl, w13⟩ := nat_of p13 q13
  refine ⟨⟨a0, a1, a2, a3, a4, a5, a6, a7, a8, a9, a10, a11, a12, a13⟩, ⟨by show a0 < 5; omega, by show a1 < 3; omega, by show a2 < 5; omega, by show a3 < 3; omega, by show a4 < 9; omega, by show a5 < 5; omega, by show a6 < 4; omega, by show a7 < 4; omega, by show a8 < 5; omega, by show a9 < 4; omega, by show a10 < 5; omega, by show a11 < 5; omega, by show a12 < 3; omega, by show a13 < 3; omega⟩, ?_⟩
  exact framed_ok (by simp [D.closedL, D.closed]) ((digits_at _ _ _).trans e) (by simp [Dg.vec, D.closedL, D.closed])
theorem gq1 (a0 a1 a2 a3 a4 a5 a6 a7 a8 a9 a10 a11 : Nat) (m : MO) : (two 3 3).map (fun q => gr1 [none, none, none, some (.lst (Dg.mk a0 a1 a2 a3 a4 a5 a6 a7 a8 a9 a10 a11 q.1 q.2).vec), some (.hdl 0), none, none, none, none, none] [m]) = (two 3 3).map fun q => .nx [none, none, none, some (.lst (Dg.mk a0 a1 a2 a3 a4 a5 a6 a7 a8 a9 a10 a11 q.1 q.2).vec), some (.hdl 0), none, none, none, some (.str (names3.getD q.1 "")), some (.int (years3.getD q.2 0))] [m] := by kernel_rfl
section
variable {d : Dg} (o : d.Ok)
include o
theorem gr0_is : gr0 [none, none, none, some (.lst d.vec), none, none, none, none, none, none] [] = .nx [none, none, none, some (.lst d.vec), some (.hdl 0), none, none, none, none, none] [own (d.ts.map .tup)] := by
 unfold gr0 gr0e
 simp only [ap_set, ap_call, ap_aCons, ap_aNil, ap_var, List.getElem?_cons_zero, List.getElem?_cons_succ, R.bind_ok, List.append_nil, parts_is o, R.to_ok]
 rfl
theorem gr1_is : gr1 [none, none, none, some (.lst d.vec), some (.hdl 0), none, none, none, none, none] [own (d.ts.map .tup)] = .nx [none, none, none, some (.lst d.vec), some (.hdl 0), none, none, none, some (.str d.name), some (.int d.year)] [own (d.ts.map .tup)] := by
 have f := fun m => at_fam (gq1 d.a0 d.a1 d.a2 d.a3 d.a4 d.a5 d.a6 d.a7 d.a8 d.a9 d.a10 d.a11 m) (mem2 o.h12 o.h13)
 exact f _
theorem gr2_is : gr2 [none, none, none, some (.lst d.vec), some (.hdl 0), none, none, none, some (.str d.name), some (.int d.year)] [own (d.ts.map .tup)] = .nx [none, none, none, some (.lst d.vec), some (.hdl 0), some d.P, none, none, some (.str d.name), some (.int d.year)] [own (d.ts.map .tup)] := by
 unfold gr2 gr2e
 simp only [ap_set, ap_call, ap_aCons, ap_aNil, ap_var, List.getElem?_cons_zero, List.getElem?_cons_succ, R.bind_ok, List.append_nil, parcel_is o, R.to_ok]
 rfl
theorem gr3_is : gr3 [none, none, none, some (.lst d.vec), some (.hdl 0), some d.P, none, none, some (.str d.name), some (.int d.year)] [own (d.ts.map .tup)] = .nx [none, none, none, some (.lst d.vec), some (.hdl 0), some d.P, some (.str d.text), none, some (.str d.name), some (.int d.year)] [own (d.ts.map .tup)] := by
 unfold gr3 gr3e
 simp only [ap_set, ap_call, ap_aCons, ap_aNil, ap_var, List.getElem?_cons_zero, List.getElem?_cons_succ, R.bind_ok, List.append_nil, text_is o, R.to_ok]
 rfl
theorem gr4_is : gr4 [none, none, none, some (.lst d.vec), some (.hdl 0), some d.P, some (.str d.text), none, some (.str d.name), some (.int d.year)] [own (d.ts.map .tup)] = .nx [none, none, none, some (.lst d.vec), some (.hdl 0), some d.P, some (.str d.text), none, some (.str d.name), some (.int d.year)] [own (d.ts.map .tup)] := by
 unfold gr4
 try unfold gr4c
 simp only [ap_gif, ap_test, ap_bin, ap_call, ap_aCons, ap_aNil, ap_var, List.getElem?_cons_zero, List.getElem?_cons_succ, R.bind_ok, List.append_nil, show_is o, neP_str, decide_true, Bool.not_true, R.to_ok, ap_nil]
 rfl
theorem gr5b_is : gr5b [none, none, none, some (.lst d.vec), some (.hdl 0), some d.P, some (.str d.text), some d.P, some (.str d.name), some (.int d.year)] [own (d.ts.map .tup)] = .nx [none, none, none, some (.lst d.vec), some (.hdl 0), some d.P, some (.str d.text), some d.P, some (.str d.name), some (.int d.year)] [own (d.ts.map .tup)] := by
 unfold gr5b
 simp only [ap_gif, ap_tor, ap_tnot, ap_test, ap_bin, ap_call, ap_aCons, ap_aNil, ap_var, List.getElem?_cons_zero, List.getElem?_cons_succ, R.bind_ok, List.append_nil, ne_self o, same_is o, show_is o, neP_str, decide_true, Bool.not_true, R.to_ok, ap_nil]
 rfl
theorem gr5_is : gr5 [none, none, none, some (.lst d.vec), some (.hdl 0), some d.P, some (.str d.text), none, some (.str d.name), some (.int d.year)] [own (d.ts.map .tup)] = .nx [none, none, none, some (.lst d.vec), some (.hdl 0), some d.P, some (.str d.text), some d.P, some (.str d.name), some (.int d.year)] [own (d.ts.map .tup)] := by
 have it : gr5i [none, none, none, some (.lst d.vec), some (.hdl 0), some d.P, some (.str d.text), none, some (.str d.name), some (.int d.year)] [own (d.ts.map .tup)] = .ok [d.P, d.P] [own (d.ts.map .tup)] := by
  unfold gr5i
  simp only [ap_itA, ap_lst, ap_call, ap_aCons, ap_aNil, ap_var, List.getElem?_cons_zero, List.getElem?_cons_succ, R.bind_ok, List.append_nil, show_is o, read_is o]
  rfl
 unfold gr5 gfor
 rw [it, R.to_ok]
 have a : ∀ s : Option D, asg (.nm 7) d.P [none, none, none, some (.lst d.vec), some (.hdl 0), some d.P, some (.str d.text), s, some (.str d.name), some (.int d.year)] = some [none, none, none, some (.lst d.vec), some (.hdl 0), some d.P, some (.str d.text), some d.P, some (.str d.name), some (.int d.year)] := fun _ => rfl
 rw [forD, a]
 dsimp only
 rw [gr5b_is o]
 dsimp only
 rw [forD, a]
 dsimp only
 rw [gr5b_is o]
 dsimp only
 rw [forD]
theorem rest_is : g_rest [none, none, none, some (.lst d.vec), none, none, none, none, none, none] [] = .nx [none, none, none, some (.lst d.vec), some (.hdl 0), some d.P, some (.str d.text), some d.P, some (.str d.name), some (.int d.year)] [own (d.ts.map .tup)] := by
 rw [gr_is, ap_seq, gr0_is o, O.thn_nx, ap_seq, gr1_is o, O.thn_nx, ap_seq, gr2_is o, O.thn_nx, ap_seq, gr3_is o, O.thn_nx, ap_seq, gr4_is o, O.thn_nx, gr5_is o]
theorem own_c0 : closedMu 0 [own (d.ts.map .tup)] = true := by
 have h := tups_closed o
 simp only [Dg.ts, List.map_cons, List.map_nil] at h ⊢
 simp [closedMu, own, MO.closed]
 try exact h
end
def bodyL : FS := (gseq (gasg (.nm 3) (dcall F_law_digits [] (aCons (dvar 2) (aCons (dvar 1) (aCons (dlst (aCons (dc (.int 5)) (aCons (dc (.int 3)) (aCons (dc (.int 5)) (aCons (dc (.int 3)) (aCons (dc (.int 9)) (aCons (dc (.int 5)) (aCons (dc (.int 4)) (aCons (dc (.int 4)) (aCons (dc (.int 5)) (aCons (dc (.int 4)) (aCons (dc (.int 5)) (aCons (dc (.int 5)) (aCons (dc (.int 3)) (aCons (dc (.int 3)) aNil))))))))))))))) aNil)))))
  (gforget [0, 1, 2, 4, 5, 6, 7, 8, 9] g_rest))
theorem body_is (c : Int) (i : Nat) (hi : i < 100) : turnB [0, 1, 2, 3, 4, 5, 6, 7, 8, 9] 10 (bodyL (none :: some (.int i) :: some (.int c) :: List.replicate 7 none) []) = true := by
 obtain ⟨d, o, e⟩ := digits c i hi
 have q : bodyL (none :: some (.int i) :: some (.int c) :: List.replicate 7 none) [] = g_rest [none, none, none, some (.lst d.vec), none, none, none, none, none, none] [] := by
  unfold bodyL
  rw [ap_seq]
  have e1 : (gasg (.nm 3) (dcall F_law_digits [] (aCons (dvar 2) (aCons (dvar 1) (aCons (dlst (aCons (dc (.int 5)) (aCons (dc (.int 3)) (aCons (dc (.int 5)) (aCons (dc (.int 3)) (aCons (dc (.int 9)) (aCons (dc (.int 5)) (aCons (dc (.int 4)) (aCons (dc (.int 4)) (aCons (dc (.int 5)) (aCons (dc (.int 4)) (aCons (dc (.int 5)) (aCons (dc (.int 5)) (aCons (dc (.int 3)) (aCons (dc (.int 3)) aNil))))))))))))))) aNil))))) (none :: some (.int i) :: some (.int c) :: List.replicate 7 none) []
    = .nx [none, some (.int i), some (.int c), some (.lst d.vec), none, none, none, none, none, none] [] := by
   simp [List.replicate, e]
  rw [e1, O.thn_nx]
  rfl
 rw [q, rest_is o]
 unfold turnB
 dsimp only
 rw [own_c0 o]
 rfl
theorem itX_it {fa : FA} {ρ : En} {μ μ1 : Mu} {xs : List D} (h : fa ρ μ = .ok [.lst xs] μ1) : itEX fa ρ μ = itE fa ρ μ := by
 unfold itEX itE
 rw [h]
 rfl
theorem law_is (ns : List Int) (hns : ns.length ≤ 63) : ∃ μ', F_law [.lst (ns.map D.int)] [] = .ok (.bl true) μ' := by
 obtain ⟨μ', e⟩ := turn_law (body := bodyL) (n := 10) (al := [0, 1, 2, 3, 4, 5, 6, 7, 8, 9]) (k := 24) rfl (fun _ _ => rfl) rfl (fun i c hi => body_is c i hi) ns hns rfl
 refine ⟨μ', ?_⟩
 rw [← e]
 have it : (aCons (dsl (dbin addX (dvar 0) (dlst (aCons (dc (.int 1)) aNil))) onone (osome (dc (.int 24)))) aNil) (startD 10 [.lst (ns.map D.int)]) [] = .ok [.lst (DL.cutD (ns.map D.int ++ [D.int 1]) none (some 24))] [] := by
  have hv : startD 10 [.lst (ns.map D.int)] = [some (.lst (ns.map D.int)), none, none, none, none, none, none, none, none, none] := rfl
  rw [hv]
  simp [slD, show ns.length + 1 ≤ 1000000 by omega]
 have g : gforT (itEX (aCons (dsl (dbin addX (dvar 0) (dlst (aCons (dc (.int 1)) aNil))) onone (osome (dc (.int 24)))) aNil)) (.tp [.nm 1, .nm 2]) bodyL [0, 1, 2, 3, 4, 5, 6, 7, 8, 9] (startD 10 [.lst (ns.map D.int)]) [] = gforT (itE (aCons (dsl (dbin addX (dvar 0) (dlst (aCons (dc (.int 1)) aNil))) onone (osome (dc (.int 24)))) aNil)) (.tp [.nm 1, .nm 2]) bodyL [0, 1, 2, 3, 4, 5, 6, 7, 8, 9] (startD 10 [.lst (ns.map D.int)]) [] := by
  unfold gforT
  rw [itX_it it]
 have f : g_law = gseq (gforT (itEX (aCons (dsl (dbin addX (dvar 0) (dlst (aCons (dc (.int 1)) aNil))) onone (osome (dc (.int 24)))) aNil)) (.tp [.nm 1, .nm 2]) bodyL [0, 1, 2, 3, 4, 5, 6, 7, 8, 9]) (gret (dc (.bl true))) := rfl
 unfold F_law callF
 rw [f, ap_seq, ap_seq, g]
end DL78
open PySem PySem.W PySem.Calls PyProof.Rows
theorem PySem.Challenge.cw_wholeparcels_k78_parcels_written_holds : PySem.Challenge.rw_wholeparcels_k78_parcels_written.Holds := by
 w_on; o_law
 refine HandSHeadRun.head_any (r := DL78.Rw) (q := view DL78.Rw.prog DL78.hview) (H := DL78.hk) (ob := DL78.hob) (M := 20000) (loose := DL78.hloose) (d := HandSHeadRun.topDef DL78.Rw.prog 65) (kwd := []) DL78.hob_eq
  (by kernel_rfl) (fun s => by kernel_rfl) DL78.hrun (by kernel_rfl) (by kernel_rfl) (by kernel_rfl) (by rfl) (by first | assumption | decide +kernel) (by decide +kernel) ⟨rfl, rfl, rfl, rfl, rfl, by decide +kernel⟩ ?hw ?hc
 case hw => w_witness2
 case hc =>
  refine DL.walk_g (l := PySem.Challenge.rw_wholeparcels_k78_parcels_written) (n := 63) (k := 13) (x := "_law_script") rfl (by decide) (by kernel_rfl) ⟨rfl, by decide, by decide⟩ ?F
  intro w mg fa h Y G hmg0
  obtain ⟨K, KX, c⟩ := Y
  have named : mg ("law" : PySem.Str) = some (.ref fa) := by
   have e : (HandSHeadRun.topDef DL78.Rw.prog 65).name = ("law" : PySem.Str) := by kernel_rfl
   rw [← e]
   exact hmg0
  have T := DL78.tops KX G c
  have e := named.symm.trans T.m_law
  cases e
  have b := L2.FunD.bindsA (ps := ["_law_script"]) T.F_law fun _ _ _ _ _ _ us hl => match us, hl with | [_], _ => rfl
  exact ⟨K, T.d_law, DL78.F_law, KX, DL.tabHead_of c, fun s v => b s [v] rfl, fun base _ _ tin => DL78.ok_law tin T, fun ns hl _ => DL78.law_is ns hl⟩


