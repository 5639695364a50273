import PyProof.Rows.All
import Wide.All
import OpenK.AllK
import Wide.FinOn
import KE.KStateDown
import Lean
import HandS.ForMost
import HandS.ForExc
import HandS.Wide
import HandS.Defaults
import HandS.IsInst
import HandS.HeadHook2
import HandS.HeadHook3
import KE.KExcInit
import HandS.Head2
import HandS.HeadHook4
import HandS.HeadEnd
import HandS.Lambda
import HandS.TupAny
import HandS.Deep
import KE.DataCmp
import HandS.CallRecv
import HandS.Style
import HandS.TryOnly
import HandS.More
import HandS.SlotsOwn
import HandS.Text
import HandS.Ends
import HandS.RaiseMore
import HandS.Iter
import HandS.RevRange
import KE.GoesMore
import KE.GoesEnum
import HandS.Zip
import PyProof.ExcBaseAll.ValueError
import PyProof.ExcBaseAll.LookupError
import PyProof.ExcBaseAll.ZeroDivisionError
import PyProof.ExcBaseAll.IndexError
import HandS.FStrTup
import OpenK.KOps
import KE.DataMinMax
import HandS.SortKw
import HandS.FStr
import PyProof.ReprReads
import HandS.Conv
import KE.KFmtOwn
import HandS.WideBits
import HandS.OwnEq
import HandS.TryMany
import HandS.ExcIs
import HandS.ExcInit
import HandS.ExcField
import HandS.SetFor
import HandS.Strs
import HandS.SortInts
import PyProof.ReprUnder
import PyProof.Rows.IntBool
import HandS.Flow
import KE.DataFind
import HandS.Codes
import HandS.WordsDict
import KE.SortKeyHeap
import HandS.DictEq
import HandS.ExcOwn
import PySem.Challenge.RW_sizeladders_k74_whole_errors_by_hand
set_option Elab.async false
set_option linter.all false
set_option maxRecDepth 100000
set_option maxHeartbeats 4000000
namespace Sz
open PySem PySem.Spec PyProof.Rows L2
/-- a value as a tree -/
inductive D where
  | non | bl (b : Bool) | int (i : Int) | str (s : Str) | ty (n : String)
  | tup (ds : List D) | lst (ds : List D) | obj (c : Nat) (fs : List D)
  | fn (f : Nat) | cls (c : Nat)
  /-- the law's script -/
  | scr (ns : List Int)
  /-- a dict that never changes -/
  | dic (ks : List Key) (ds : List D)
  /-- a caught exception of the program's own -/
  | exc (c : Nat) (fs : List D)
def tyNames : List String := ["NoneType", "bool", "int", "str", "list", "tuple", "dict"]
def eqB (a b : Option Bool) : Bool := match a, b with
  | some x, some y => x == y
  | none, none => true
  | _, _ => false
def kitB (cls : List Str) (n m : Nat) (sub : Nat → Nat → Bool) (K : PySem.W.Frag) : Bool :=
  (He.eqO (PySem.W.specialIn K (.builtin "object.__class__") "__get__") (some (some (.builtin "getset_descriptor.__get__"))) && eqB (PySem.W.takesIn K (.builtin "object.__class__")) (some true)) &&
  (((List.range n).all fun c => (He.Fa.cls (cls.getD c "")).ok K && (He.eqO (PySem.W.findIn K (.ref (He.ga K (cls.getD c ""))) "__class__") (some (some (.builtin "object.__class__"))) && eqB (PySem.W.mroIn K (He.ga K (cls.getD c "")) (.type "object")) (some true))) &&
  (((List.range m).all fun c => tyNames.all fun T => eqB (PySem.W.kitOne K (.type T) (.ref (He.ga K (cls.getD c "")))) (some false)) &&
  (((List.range n).all fun c => (List.range m).all fun c' => eqB (PySem.W.kitOne K (.ref (He.ga K (cls.getD c ""))) (.ref (He.ga K (cls.getD c' "")))) (some (sub c c'))) &&
  ((List.range n).all fun c => ["bool", "int", "str", "list", "tuple", "dict"].all fun T => eqB (PySem.W.kitOne K (.ref (He.ga K (cls.getD c ""))) (.type T)) (some false)))))
def obsZ (chk : PySem.W.Frag → Bool) (fa : List He.Fa) (fn : List He.DefD) (K : PySem.W.Frag) : He.AlD := ((chk K && fa.all fun f => f.ok K) && fn.all fun d => d.ok K, fn.map fun d => He.fnW K d.at_)
def SaysZ (chk : PySem.W.Frag → Bool) (fa : List He.Fa) (fn : List He.DefD) (K : PySem.W.Frag) : Prop := obsZ chk fa fn K = He.valD fn
def faOf (frees globs : List Str) (rest : List He.Fa) : List He.Fa := frees.map .free ++ (globs.map .glo ++ (globs.map .keep ++ rest))
/-- a default as the head has it -/
def dvOf : D → He.Dv
  | .bl b => .bl b
  | .int i => .int i
  | .str s => .str s
  | .ty T => .ty T
  | _ => .non
abbrev Tab := List (Str × D)
/-- a table's value as the head has it -/
def valB (fns : List Str) (K : PySem.W.Frag) : D → Option (Option Value) → Bool
  | .fn n, some (some (.ref a)) => a == He.ga K (fns.getD n "")
  | .int i, some (some (.int j _)) => i == j
  | .str s, some (some (.str z _)) => s == z
  | _, _ => false
def sOf : Value → Option Str
  | .str z _ => some z
  | _ => none
/-- a tuple of texts of the top -/
def tpB (K : PySem.W.Frag) (p : Str × List Str) : Bool := match K.lookup (He.ga K p.1) with
  | some o => decide (o.cls = .type "tuple") && (match o.data with
    | .seq its _ => decide (its.size ≤ sizeLine) && decide (its.toList.map sOf = p.2.map some)
    | _ => false)
  | none => false
def tpsB (tps : List (Str × List Str)) (K : PySem.W.Frag) : Bool := tps.all fun p => He.Fa.ok K (.glo p.1) && tpB K p
/-- the tables by their defs' numbers -/
def tabB (fns : List Str) (tabs : List (Nat × Tab)) (K : PySem.W.Frag) : Bool := tabs.all fun q => He.Fa.ok K (.glo (fns.getD q.1 "")) && q.2.all fun e => valB fns K e.2 (PySem.W.nsIn K (He.ga K (fns.getD q.1 "")) e.1)
def tabsOf (tabs : List (Nat × Tab)) (n : Nat) : Option Tab := tabs.lookup n
def htabs (fns : List Str) (tabs : List (Nat × Tab)) : List He.Tab := tabs.map fun q => (fun K => He.ga K (fns.getD q.1 ""), q.2.map (·.1))
abbrev AlY : Type := He.AlD × List (Option (List (Option (Str × Int))))
def obsY (chk : PySem.W.Frag → Bool) (fa : List He.Fa) (fn : List He.DefD) (ts : List He.Tab) (K : PySem.W.Frag) : AlY := (obsZ chk fa fn K, ts.map fun t => He.dicW K (t.1 K))
def valY (fn : List He.DefD) (ts : List He.Tab) (w : World) : AlY := (He.valD fn, ts.map fun t => some (He.keysIn w.params t.2))
def SaysY (chk : PySem.W.Frag → Bool) (fa : List He.Fa) (fn : List He.DefD) (ts : List He.Tab) (w : World) (K : PySem.W.Frag) : Prop := obsY chk fa fn ts K = valY fn ts w
/-- the built-in bases, told by number -/
def bmOf : Nat → List Value
  | 0 => [.type "ValueError", .type "Exception", .type "BaseException", .type "object"]
  | 1 => [.type "ZeroDivisionError", .type "ArithmeticError", .type "Exception", .type "BaseException", .type "object"]
  | 2 => [.type "LookupError", .type "Exception", .type "BaseException", .type "object"]
  | _ => [.type "IndexError", .type "LookupError", .type "Exception", .type "BaseException", .type "object"]
def newOf : Nat → String
  | 0 => "ValueError.__new__"
  | 1 => "ZeroDivisionError.__new__"
  | 2 => "LookupError.__new__"
  | _ => "IndexError.__new__"
open PySem.W in
/-- one class: its name, its base -/
def xcB (K : Frag) (p : Str × Nat) : Bool :=
  (excIn K (He.ga K p.1) (bmOf p.2) (newOf p.2) && keepIn K (.ref (He.ga K p.1))) && ((subIn K (.ref (He.ga K p.1)) (.type "BaseException") == some true && typeIn K (.ref (He.ga K p.1)) == some (.type "type")) &&
  ((findIn K (.ref (He.ga K p.1)) "__getattribute__" == some (some (.builtin "BaseException.__getattribute__")) && findIn K (.ref (He.ga K p.1)) "__getattr__" == some none) &&
  ((hasDictIn K (He.ga K p.1) && findIn K (.ref (He.ga K p.1)) "__class__" == some (some (.builtin "object.__class__"))) && mroIn K (He.ga K p.1) (.type "object") == some true)))
structure XTab where
  exs : List (Nat × (Str × Nat))
  exm : List ((Nat × Nat) × Bool)
  sub : List ((Nat × Nat) × Bool)
  ty : List ((Nat × String) × Bool)
open PySem.W in
def xtB (cls : List Str) (t : XTab) (K : Frag) : Bool :=
  ((specialIn K (.builtin "object.__class__") "__get__" == some (some (.builtin "getset_descriptor.__get__")) && takesIn K (.builtin "object.__class__") == some true) &&
  (t.exs.all fun p => xcB K p.2 && cls.getD p.1 "" == p.2.1)) &&
  ((t.exm.all fun p => exmOne K (.ref (He.ga K (cls.getD p.1.1 ""))) (.ref (He.ga K (cls.getD p.1.2 ""))) == some p.2) &&
  ((t.sub.all fun p => kitOne K (.ref (He.ga K (cls.getD p.1.1 ""))) (.ref (He.ga K (cls.getD p.1.2 ""))) == some p.2) &&
  (t.ty.all fun p => kitOne K (.ref (He.ga K (cls.getD p.1.1 ""))) (.type p.1.2) == some p.2)))
def iniOf : Nat → String
  | 0 => "ValueError.__init__"
  | 1 => "ZeroDivisionError.__init__"
  | 2 => "LookupError.__init__"
  | _ => "IndexError.__init__"
/-- such a class: its name, the number of its built-in base, the own base that its __init__ calls, its fields in the order of the stores -/
structure XI where
  nm : Str
  b : Nat
  ob : Str
  fl : List Str
open PySem.W in
def xiB (K : Frag) (p : XI) : Bool :=
  ((excInitIn K (He.ga K p.nm) (bmOf p.b) (newOf p.b) && excOver K (He.ga K p.nm) (bmOf p.b)) && (hasDictIn K (He.ga K p.nm) && keepIn K (.ref (He.ga K p.nm)))) &&
  (((findIn K (.ref (He.ga K p.nm)) "__setattr__" == some (some (.builtin "object.__setattr__")) && subIn K (.ref (He.ga K p.nm)) (.type "BaseException") == some true) && (typeIn K (.ref (He.ga K p.nm)) == some (.type "type") && mroIn K (He.ga K p.nm) (.type "object") == some true)) &&
  (((findIn K (.ref (He.ga K p.nm)) "__getattribute__" == some (some (.builtin "BaseException.__getattribute__")) && findIn K (.ref (He.ga K p.nm)) "__getattr__" == some none) && findIn K (.ref (He.ga K p.nm)) "__class__" == some (some (.builtin "object.__class__"))) &&
  (((specialIn K (.ref (He.ga K p.ob)) "__getattribute__" == some (some (.builtin "type.__getattribute__")) && readsIn K (He.ga K p.ob) (.type "type")) && (match findCls K (.ref (He.ga K p.ob)) (.type "type") "__init__" with | some (.val (.builtin x)) => x == iniOf p.b | _ => false)) &&
  ((p.fl.all fun f => findIn K (.ref (He.ga K p.nm)) f == some none) &&
  (findIn K (.ref (He.ga K p.nm)) "__init__" == some (some (.ref (He.ma K (He.ga K p.nm) "__init__"))) && typeIn K (.ref (He.ma K (He.ga K p.nm) "__init__")) == some (.type "function"))))))
abbrev XIs := List (Nat × XI)
def xiA (cls : List Str) (xi : XIs) (K : PySem.W.Frag) : Bool := xi.all fun p => xiB K p.2 && cls.getD p.1 "" == p.2.nm
def obsSG (n : Nat) (chk : PySem.W.Frag → Bool) (fa : List He.Fa) (fn : List He.DefD) (ts : List He.Tab) (g : Addr → Option Obj) : AlY := obsY chk fa fn ts (He.frG g (He.asD g n ++ [cStatics]))
def hookS (n : Nat) (chk : PySem.W.Frag → Bool) (fa : List He.Fa) (fn : List He.DefD) (ts : List He.Tab) : PySem.W.Hook where
  α := AlY
  obs := fun s => obsSG n chk fa fn ts s.heap.get?
  val := fun w => valY fn ts w
  says := fun w h => ∃ K : PySem.W.Frag, K.In h ∧ SaysY chk fa fn ts w K
  of := fun _ _ e => ⟨_, He.frG_in, e⟩
  keeps := fun _ _ _ ⟨K, hK, c⟩ k => ⟨K, PySem.W.Frag.In.keeps hK k, c⟩
theorem obsSG_eq {n : Nat} {chk : PySem.W.Frag → Bool} {fa : List He.Fa} {fn : List He.DefD} {ts : List He.Tab} {g : Addr → Option Obj} {s : Shared} (h : ∀ a, g a = s.heap.get? a) : obsSG n chk fa fn ts g = (hookS n chk fa fn ts).obs s := by
  have e : g = s.heap.get? := funext h
  rw [e] <;> rfl
def tyNs : List String := ["NoneType", "bool", "int", "str", "tuple", "list", "dict"]
end Sz
set_option Elab.async false
set_option linter.all false
set_option maxRecDepth 100000
set_option maxHeartbeats 4000000
namespace Sz
open PySem PySem.Spec PyProof.Rows L2
/-- the built-ins' module, told by K; P is another object -/
def bmB (K : PySem.W.Frag) (P : Addr) : Bool := He.Fa.ok K (.glo "__builtins__") && (decide (He.ga K "__builtins__" ≠ builtinsNs) && (decide (He.ga K "__builtins__" ≠ mainGlobals) && (decide (He.ga K "__builtins__" ≠ P) && (decide (mainGlobals ≠ P) && (match K.lookup (He.ga K "__builtins__") with
  | some ⟨.type c, some d, .plain, _⟩ => decide (c = "module") && decide (d = builtinsNs)
  | _ => false)))))
end Sz
set_option Elab.async false
set_option linter.all false
set_option maxRecDepth 100000
set_option maxHeartbeats 4000000
namespace Law
open PySem PySem.Spec L2 Sz
abbrev tCls : List Str := ["NoMeasure", "NoStretch", "NoLadder", "NoLine", "Slip", "NoText", "NoSize", "NoLand", "LandTwice", "NoBottom", "NothingBack", "LadderError", "LandError"]
def tX : XTab := ⟨[(0, ("NoMeasure", 0)), (1, ("NoStretch", 0)), (2, ("NoLadder", 0)), (3, ("NoLine", 0)), (9, ("NoBottom", 1)), (10, ("NothingBack", 3)), (11, ("LadderError", 0)), (12, ("LandError", 2))], [], [((0, 0), true), ((0, 1), false), ((0, 2), false), ((0, 3), false), ((0, 4), false), ((0, 5), false), ((0, 6), false), ((0, 7), false), ((0, 8), false), ((0, 9), false), ((0, 10), false), ((0, 11), true), ((0, 12), false), ((1, 0), false), ((1, 1), true), ((1, 2), false), ((1, 3), false), ((1, 4), false), ((1, 5), false), ((1, 6), false), ((1, 7), false), ((1, 8), false), ((1, 9), false), ((1, 10), false), ((1, 11), true), ((1, 12), false), ((2, 0), false), ((2, 1), false), ((2, 2), true), ((2, 3), false), ((2, 4), false), ((2, 5), false), ((2, 6), false), ((2, 7), false), ((2, 8), false), ((2, 9), false), ((2, 10), false), ((2, 11), true), ((2, 12), false), ((3, 0), false), ((3, 1), false), ((3, 2), false), ((3, 3), true), ((3, 4), false), ((3, 5), false), ((3, 6), false), ((3, 7), false), ((3, 8), false), ((3, 9), false), ((3, 10), false), ((3, 11), true), ((3, 12), false), ((9, 0), false), ((9, 1), false), ((9, 2), false), ((9, 3), false), ((9, 4), false), ((9, 5), false), ((9, 6), false), ((9, 7), false), ((9, 8), false), ((9, 9), true), ((9, 10), false), ((9, 11), false), ((9, 12), false), ((10, 0), false), ((10, 1), false), ((10, 2), false), ((10, 3), false), ((10, 4), false), ((10, 5), false), ((10, 6), false), ((10, 7), false), ((10, 8), false), ((10, 9), false), ((10, 10), true), ((10, 11), false), ((10, 12), false), ((11, 0), false), ((11, 1), false), ((11, 2), false), ((11, 3), false), ((11, 4), false), ((11, 5), false), ((11, 6), false), ((11, 7), false), ((11, 8), false), ((11, 9), false), ((11, 10), false), ((11, 11), true), ((11, 12), false), ((12, 0), false), ((12, 1), false), ((12, 2), false), ((12, 3), false), ((12, 4), false), ((12, 5), false), ((12, 6), false), ((12, 7), false), ((12, 8), false), ((12, 9), false), ((12, 10), false), ((12, 11), false), ((12, 12), true), ((4, 0), false), ((4, 1), false), ((4, 2), false), ((4, 3), false), ((4, 4), true), ((4, 5), false), ((4, 6), false), ((4, 7), false), ((4, 8), false), ((4, 9), false), ((4, 10), false), ((4, 11), true), ((4, 12), false), ((5, 0), false), ((5, 1), false), ((5, 2), false), ((5, 3), false), ((5, 4), false), ((5, 5), true), ((5, 6), false), ((5, 7), false), ((5, 8), false), ((5, 9), false), ((5, 10), false), ((5, 11), true), ((5, 12), false), ((6, 0), false), ((6, 1), false), ((6, 2), false), ((6, 3), false), ((6, 4), false), ((6, 5), false), ((6, 6), true), ((6, 7), false), ((6, 8), false), ((6, 9), false), ((6, 10), false), ((6, 11), false), ((6, 12), true), ((7, 0), false), ((7, 1), false), ((7, 2), false), ((7, 3), false), ((7, 4), false), ((7, 5), false), ((7, 6), false), ((7, 7), true), ((7, 8), false), ((7, 9), false), ((7, 10), false), ((7, 11), false), ((7, 12), true), ((8, 0), false), ((8, 1), false), ((8, 2), false), ((8, 3), false), ((8, 4), false), ((8, 5), false), ((8, 6), false), ((8, 7), false), ((8, 8), true), ((8, 9), false), ((8, 10), false), ((8, 11), false), ((8, 12), true)], [((0, ("ValueError" : String)), true), ((0, ("LookupError" : String)), false), ((0, ("ZeroDivisionError" : String)), false), ((0, ("IndexError" : String)), false), ((1, ("ValueError" : String)), true), ((1, ("LookupError" : String)), false), ((1, ("ZeroDivisionError" : String)), false), ((1, ("IndexError" : String)), false), ((2, ("ValueError" : String)), true), ((2, ("LookupError" : String)), false), ((2, ("ZeroDivisionError" : String)), false), ((2, ("IndexError" : String)), false), ((3, ("ValueError" : String)), true), ((3, ("LookupError" : String)), false), ((3, ("ZeroDivisionError" : String)), false), ((3, ("IndexError" : String)), false), ((9, ("ValueError" : String)), false), ((9, ("LookupError" : String)), false), ((9, ("ZeroDivisionError" : String)), true), ((9, ("IndexError" : String)), false), ((10, ("ValueError" : String)), false), ((10, ("LookupError" : String)), true), ((10, ("ZeroDivisionError" : String)), false), ((10, ("IndexError" : String)), true), ((11, ("ValueError" : String)), true), ((11, ("LookupError" : String)), false), ((11, ("ZeroDivisionError" : String)), false), ((11, ("IndexError" : String)), false), ((12, ("ValueError" : String)), false), ((12, ("LookupError" : String)), true), ((12, ("ZeroDivisionError" : String)), false), ((12, ("IndexError" : String)), false), ((4, ("ValueError" : String)), true), ((4, ("LookupError" : String)), false), ((4, ("ZeroDivisionError" : String)), false), ((4, ("IndexError" : String)), false), ((5, ("ValueError" : String)), true), ((5, ("LookupError" : String)), false), ((5, ("ZeroDivisionError" : String)), false), ((5, ("IndexError" : String)), false), ((6, ("ValueError" : String)), false), ((6, ("LookupError" : String)), true), ((6, ("ZeroDivisionError" : String)), false), ((6, ("IndexError" : String)), false), ((7, ("ValueError" : String)), false), ((7, ("LookupError" : String)), true), ((7, ("ZeroDivisionError" : String)), false), ((7, ("IndexError" : String)), false), ((8, ("ValueError" : String)), false), ((8, ("LookupError" : String)), true), ((8, ("ZeroDivisionError" : String)), false), ((8, ("IndexError" : String)), false)]⟩
abbrev tFls : List (List Str) := []
def tXi : XIs := [(4, ⟨"Slip", 0, "LadderError", ["row"]⟩), (5, ⟨"NoText", 0, "LadderError", ["row", "why"]⟩), (6, ⟨"NoSize", 2, "LandError", ["number"]⟩), (7, ⟨"NoLand", 2, "LandError", ["name"]⟩), (8, ⟨"LandTwice", 2, "LandError", ["name"]⟩)]
abbrev tFlsX : List (List Str) := tFls ++ ([[], [], [], [], ["row"], ["why", "row"], ["number"], ["name"], ["name"], [], [], [], []] : List (List Str))
abbrev tFns : List Str := []
abbrev lTabs : List (Nat × Tab) := []
abbrev tTabs : Nat → Option Tab := tabsOf lTabs
def tCis : List (Str × Int) := []
def tTps : List (Str × List Str) := []
def tCss : List (Str × Str) := []
abbrev nKit : Nat := 0
abbrev subK : Nat → Nat → Bool := fun a b => a == b
end Law
set_option Elab.async false
set_option linter.all false
set_option maxRecDepth 100000
set_option maxHeartbeats 4000000
namespace Law
open PySem PySem.Spec L2 Sz
abbrev top (i : Nat) : Stmt := PySem.Challenge.pw_sizeladders_k74_whole_errors_by_hand.main.body.getD i (.Pass ⟨0, 0, 0, 0⟩)
abbrev st_l_hand_of : Stmt := top 15
def d_l_hand_of : He.DefD := ⟨("_law_hand_of", none), "_law_hand_of", "_law_hand_of", defArgs st_l_hand_of, defBody st_l_hand_of, defScope st_l_hand_of, ([] : List D).map dvOf, []⟩
abbrev st_l_take : Stmt := top 16
def d_l_take : He.DefD := ⟨("_law_take", none), "_law_take", "_law_take", defArgs st_l_take, defBody st_l_take, defScope st_l_take, ([] : List D).map dvOf, []⟩
abbrev st_l_thing : Stmt := top 17
def d_l_thing : He.DefD := ⟨("_law_thing", none), "_law_thing", "_law_thing", defArgs st_l_thing, defBody st_l_thing, defScope st_l_thing, ([] : List D).map dvOf, []⟩
abbrev st_l_own : Stmt := top 18
def d_l_own : He.DefD := ⟨("_law_own", none), "_law_own", "_law_own", defArgs st_l_own, defBody st_l_own, defScope st_l_own, ([] : List D).map dvOf, []⟩
abbrev st_l_families : Stmt := top 19
def d_l_families : He.DefD := ⟨("_law_families", none), "_law_families", "_law_families", defArgs st_l_families, defBody st_l_families, defScope st_l_families, ([] : List D).map dvOf, []⟩
abbrev st_l_kinds_right : Stmt := top 20
def d_l_kinds_right : He.DefD := ⟨("_law_kinds_right", none), "_law_kinds_right", "_law_kinds_right", defArgs st_l_kinds_right, defBody st_l_kinds_right, defScope st_l_kinds_right, ([] : List D).map dvOf, []⟩
abbrev st_l_values_right : Stmt := top 21
def d_l_values_right : He.DefD := ⟨("_law_values_right", none), "_law_values_right", "_law_values_right", defArgs st_l_values_right, defBody st_l_values_right, defScope st_l_values_right, ([] : List D).map dvOf, []⟩
abbrev st_law : Stmt := top 22
def d_law : He.DefD := ⟨("law", none), "law", "law", defArgs st_law, defBody st_law, defScope st_law, ([] : List D).map dvOf, []⟩
abbrev st_Slip___init__ : Stmt := inClass (top 6) 0
def d_Slip___init__ : He.DefD := ⟨("Slip", some "__init__"), "__init__", "Slip.__init__", defArgs st_Slip___init__, defBody st_Slip___init__, defScope st_Slip___init__, ([] : List D).map dvOf, []⟩
abbrev st_NoText___init__ : Stmt := inClass (top 7) 0
def d_NoText___init__ : He.DefD := ⟨("NoText", some "__init__"), "__init__", "NoText.__init__", defArgs st_NoText___init__, defBody st_NoText___init__, defScope st_NoText___init__, ([.str "form"] : List D).map dvOf, []⟩
abbrev st_NoSize___init__ : Stmt := inClass (top 9) 0
def d_NoSize___init__ : He.DefD := ⟨("NoSize", some "__init__"), "__init__", "NoSize.__init__", defArgs st_NoSize___init__, defBody st_NoSize___init__, defScope st_NoSize___init__, ([] : List D).map dvOf, []⟩
abbrev st_NoLand___init__ : Stmt := inClass (top 10) 0
def d_NoLand___init__ : He.DefD := ⟨("NoLand", some "__init__"), "__init__", "NoLand.__init__", defArgs st_NoLand___init__, defBody st_NoLand___init__, defScope st_NoLand___init__, ([] : List D).map dvOf, []⟩
abbrev st_LandTwice___init__ : Stmt := inClass (top 11) 0
def d_LandTwice___init__ : He.DefD := ⟨("LandTwice", some "__init__"), "__init__", "LandTwice.__init__", defArgs st_LandTwice___init__, defBody st_LandTwice___init__, defScope st_LandTwice___init__, ([] : List D).map dvOf, []⟩
def tDefs : List He.DefD := ([d_l_hand_of, d_l_take, d_l_thing, d_l_own, d_l_families, d_l_kinds_right, d_l_values_right, d_law, d_Slip___init__, d_NoText___init__, d_NoSize___init__, d_NoLand___init__, d_LandTwice___init__] : List He.DefD)
def tFrees : List Str := ["range", "len", "min", "int", "enumerate", "isinstance", "ValueError", "LookupError", "ZeroDivisionError", "IndexError", "repr"]
def tGlobs : List Str := (["_law_hand_of", "NoMeasure", "NoStretch", "NoLadder", "NoLine", "Slip", "_law_take", "LadderError", "NoText", "NoSize", "_law_thing", "LandError", "NoLand", "LandTwice", "NoBottom", "NothingBack", "_law_own", "_law_families", "_law_kinds_right", "_law_values_right"] : List Str) ++ (["law"] : List Str)
def tRest : List He.Fa := (([] : List He.Fa)) ++ (tCis.map (fun p => He.Fa.int p.1 p.2) ++ tCss.map fun p => He.Fa.str p.1 p.2)
def tNfs : List (Str × Str) := []
def tAns : List Str := []
def tNns : List Str := []
def tNes : List Str := []
def tFms : List Str := []
def tChk (K : PySem.W.Frag) : Bool := (kitB tCls nKit nKit subK K && tpsB tTps K) && (((tNfs.all fun p => PySem.W.notFirst K (He.ga K p.1) (.ref (He.ga K p.2))) && (((tNes.all fun c => PySem.W.findIn K (.ref (He.ga K c)) "__ne__" == some (some (.builtin "object.__ne__")) && PySem.W.mroIn K (He.ga K c) (.type "object") == some true) && (tFms.all fun c => PySem.W.findIn K (.ref (He.ga K c)) "__format__" == some (some (.builtin "object.__format__")) && PySem.W.mroIn K (He.ga K c) (.type "object") == some true)) && ((tNns.all fun c => PySem.W.notFirst K (He.ga K c) (.type "NoneType") && PySem.W.subIn K (.ref (He.ga K c)) (.type "NoneType") == some false) && ((tAns.all fun c => tyNs.all fun T => PySem.W.notFirst K (He.ga K c) (.type T) && PySem.W.subIn K (.ref (He.ga K c)) (.type T) == some false) && (xtB tCls tX K && xiA tCls tXi K))))) && tabB tFns lTabs K)
end Law
set_option Elab.async false
set_option linter.all false
set_option maxRecDepth 100000
set_option maxHeartbeats 0
namespace Law
open PySem PySem.Spec PyProof.Rows L2 Sz
abbrev RR : PySem.W.OpenRow := PySem.W.OpenLaw.row PySem.Challenge.rw_sizeladders_k74_whole_errors_by_hand
abbrev hk : PySem.W.Hook := hookS 4 tChk (faOf tFrees tGlobs tRest) tDefs (htabs tFns lTabs)
def ob (s : PySem.W.SharedT) : AlY := obsSG 4 tChk (faOf tFrees tGlobs tRest) tDefs (htabs tFns lTabs) (HandSHeadRun.getT s)
theorem ob_eq (s : PySem.W.SharedT) : ob s = hk.obs s.abs := obsSG_eq (HandSHeadRun.getT_eq s)
def tLoose : List Str := (["__name__", "LadderError", "NoMeasure", "NoStretch", "NoLadder", "NoLine", "Slip", "NoText", "LandError", "NoSize", "NoLand", "LandTwice", "NoBottom", "NothingBack", "_law_hand_of", "_law_take", "_law_thing", "_law_own", "_law_families", "_law_kinds_right"] : List Str) ++ (["_law_values_right"] : List Str)
theorem run (w : World) : HandSHeadRun.RunEq RR (PySem.W.view RR.prog [22]) hk ob 4000 tLoose w := by
  intro os
  kernel_rfl
end Law
set_option Elab.async false
set_option linter.all false
set_option maxRecDepth 100000
set_option maxHeartbeats 4000000
namespace Sz
open PySem PySem.Spec L2
/-- what a slot holds -/
inductive S where
  | val (d : D) | cell (k : Nat) | fr (ds : List D)
  /-- a list that nothing holds yet, its first item a list that changes: a cell, or a loose one -/
  | pot (j : Option Nat) (is ds : List D)
  /-- a thing of which nothing is known -/
  | any
/-- what a cell of the store holds -/
inductive C where
  | lst (ds : List D) | frz (d : D) | ins (c : Nat) (fs : List (Str × D))
  /-- a list whose first item is the list in cell j -/
  | pot (j : Nat) (ds : List D)
  /-- a dict that changes: its keys, its values -/
  | dct (kvs : List (Key × D))
  /-- an object whose fields are cells ahead of it -/
  | bk (c : Nat) (fs : List (Str × Nat))
/-- an exception of the program's own -/
inductive Ex where
  | own (c : Nat) (fs : List D)
abbrev En := List (Option S)
abbrev Sto := List C
/-- an expression's run -/
abbrev R := Except Ex S × Sto
abbrev ME := En → Sto → Option R
/-- a statement's -/
inductive Fl where
  | nx | rt (s : S) | bk | ct | ex (x : Ex)
abbrev MS := En → Sto → Option (Fl × En × Sto)
/-- where the text's own things stand -/
structure G where
  K : PySem.W.Frag
  cad : Nat → Addr
  fl : Nat → List Str
  fad : Nat → Addr
  /-- the tables of code objects that lambdas are put into, with the names of these -/
  tbs : List (Addr × Str) := []
mutual
def Rep (g : G) (F : Hp) : D → V → Prop
  | .non, v => v = .non
  | .bl b, v => v = .bl b
  | .int i, v => v = .int i
  | .str s, v => v = .str s
  | .ty n, v => v = .ty n
  | .tup ds, v => ∃ a vs, v = .ref a ∧ SqT g.K F a vs ∧ Reps g F ds vs
  | .lst ds, v => ∃ a vs, v = .ref a ∧ F a = some (.lst vs) ∧ Reps g F ds vs
  | .obj c fs, v => ∃ a dx vs, v = .ref a ∧ F a = some (.ins (g.cad c) dx ((g.fl c).zip vs)) ∧ vs.length = (g.fl c).length ∧ Reps g F fs vs
  | .fn f, v => v = .ref (g.fad f)
  | .cls c, v => v = .ref (g.cad c)
  | .scr ns, v => ∃ a, v = .ref a ∧ SqL g.K F a (ns.map V.int)
  | .dic ks ds, v => ∃ a o vs, v = .ref a ∧ F a = some (.frz o (.dK (ks.zip vs))) ∧ vs.length = ks.length ∧ Reps g F ds vs
  | .exc c fs, v => ∃ (a : Addr) (oe : Obj) (dx : Addr) (vs : List V), v = .ref a ∧ F a = some (.ext fun h => h.get? a = some oe) ∧ oe.cls = .ref (g.cad c) ∧ (∃ ws, oe.data = .fields ws) ∧ (oe.dict = some dx → F dx = some (.xd ((g.fl c).zip vs)) ∧ vs.length = (g.fl c).length) ∧ (oe.dict ≠ some dx → vs = []) ∧ (fs = [] → oe.dict = none) ∧ Reps g F fs vs
def Reps (g : G) (F : Hp) : List D → List V → Prop
  | [], vs => vs = []
  | d :: ds, vs => ∃ v r, vs = v :: r ∧ Rep g F d v ∧ Reps g F ds r
end
theorem seqT_mono {K : PySem.W.Frag} {H H' : Hp} {a : Addr} {xs : List V} (e : Same H H') (h : SqT K H a xs) : SqT K H' a xs := by
  rcases h with (h | ⟨o, h⟩) | h
  · exact .inl (.inl (e _ _ h))
  · exact .inl (.inr ⟨o, e _ _ h⟩)
  · exact .inr h
section
variable {g : G} {F F' : Hp}
mutual
theorem Rep.mono (e : Same F F') : ∀ {d : D} {v : V}, Rep g F d v → Rep g F' d v
  | .non, _, h => h
  | .bl _, _, h => h
  | .int _, _, h => h
  | .str _, _, h => h
  | .ty _, _, h => h
  | .tup ds, v, h => by
    unfold Rep at h ⊢
    obtain ⟨a, vs, e1, e2, e3⟩ := h
    exact ⟨a, vs, e1, seqT_mono e e2, Reps.mono e e3⟩
  | .lst ds, v, h => by
    unfold Rep at h ⊢
    obtain ⟨a, vs, e1, e2, e3⟩ := h
    exact ⟨a, vs, e1, e _ _ e2, Reps.mono e e3⟩
  | .obj c fs, v, h => by
    unfold Rep at h ⊢
    obtain ⟨a, dx, vs, e1, e2, e3, e4⟩ := h
    exact ⟨a, dx, vs, e1, e _ _ e2, e3, Reps.mono e e4⟩
  | .fn _, _, h => h
  | .cls _, _, h => h
  | .scr ns, v, h => by
    unfold Rep at h ⊢
    obtain ⟨a, e1, e2⟩ := h
    exact ⟨a, e1, e.seq e2⟩
  | .dic ks ds, v, h => by
    unfold Rep at h ⊢
    obtain ⟨a, o, vs, e1, e2, e3, e4⟩ := h
    exact ⟨a, o, vs, e1, e _ _ e2, e3, Reps.mono e e4⟩
  | .exc c fs, v, h => by
    unfold Rep at h ⊢
    obtain ⟨a, oe, dx, vs, e1, e2, e3, e4, e5, e6, e8, e7⟩ := h
    exact ⟨a, oe, dx, vs, e1, e _ _ e2, e3, e4, fun z => ⟨e _ _ (e5 z).1, (e5 z).2⟩, e6, e8, Reps.mono e e7⟩
theorem Reps.mono (e : Same F F') : ∀ {ds : List D} {vs : List V}, Reps g F ds vs → Reps g F' ds vs
  | [], _, h => h
  | d :: ds, vs, h => by
    unfold Reps at h ⊢
    obtain ⟨v, r, e1, e2, e3⟩ := h
    exact ⟨v, r, e1, Rep.mono e e2, Reps.mono e e3⟩
end
theorem Reps.nil : Reps g F [] [] := by unfold Reps; rfl
theorem Reps.nil_iff {vs : List V} : Reps g F [] vs ↔ vs = [] := by unfold Reps; exact Iff.rfl
theorem Reps.cons_iff {d : D} {ds : List D} {vs : List V} : Reps g F (d :: ds) vs ↔ ∃ v r, vs = v :: r ∧ Rep g F d v ∧ Reps g F ds r := by
  conv => lhs; unfold Reps
theorem Reps.cons {d : D} {ds : List D} {v : V} {vs : List V} (h : Rep g F d v) (t : Reps g F ds vs) : Reps g F (d :: ds) (v :: vs) := Reps.cons_iff.mpr ⟨v, vs, rfl, h, t⟩
theorem Reps.length : ∀ {ds : List D} {vs : List V}, Reps g F ds vs → vs.length = ds.length
  | [], vs, h => by rw [Reps.nil_iff.mp h]; rfl
  | d :: ds, vs, h => by
    obtain ⟨v, r, e, _, t⟩ := Reps.cons_iff.mp h
    rw [e, List.length_cons, List.length_cons, Reps.length t]
theorem Reps.get : ∀ {ds : List D} {vs : List V} {i : Nat} {d : D}, Reps g F ds vs → ds[i]? = some d → ∃ v, vs[i]? = some v ∧ Rep g F d v
  | [], _, _, _, _, e => by simp at e
  | d :: ds, vs, 0, d', h, e => by
    obtain ⟨v, r, e1, e2, t⟩ := Reps.cons_iff.mp h
    simp only [List.getElem?_cons_zero, Option.some.injEq] at e
    subst e
    exact ⟨v, by rw [e1]; rfl, e2⟩
  | d :: ds, vs, i + 1, d', h, e => by
    obtain ⟨v, r, e1, e2, t⟩ := Reps.cons_iff.mp h
    simp only [List.getElem?_cons_succ] at e
    obtain ⟨u, h1, h2⟩ := Reps.get t e
    exact ⟨u, by rw [e1, List.getElem?_cons_succ]; exact h1, h2⟩
theorem Reps.append : ∀ {ds es : List D} {vs us : List V}, Reps g F ds vs → Reps g F es us → Reps g F (ds ++ es) (vs ++ us)
  | [], es, vs, us, h, t => by rw [Reps.nil_iff.mp h]; exact t
  | d :: ds, es, vs, us, h, t => by
    obtain ⟨v, r, e1, e2, e3⟩ := Reps.cons_iff.mp h
    rw [e1]
    exact Reps.cons e2 (Reps.append e3 t)
theorem Reps.set {d : D} {v : V} (hv : Rep g F d v) : ∀ {ds : List D} {vs : List V} (i : Nat), Reps g F ds vs → Reps g F (ds.set i d) (vs.set i v)
  | [], _, _, h => by rw [Reps.nil_iff.mp h]; exact Reps.nil
  | e :: ds, vs, 0, h => by
    obtain ⟨u, r, e1, e2, e3⟩ := Reps.cons_iff.mp h
    rw [e1]; exact Reps.cons hv e3
  | e :: ds, vs, i + 1, h => by
    obtain ⟨u, r, e1, e2, e3⟩ := Reps.cons_iff.mp h
    rw [e1]; exact Reps.cons e2 (Reps.set hv i e3)
theorem Reps.take : ∀ {ds : List D} {vs : List V} (n : Nat), Reps g F ds vs → Reps g F (ds.take n) (vs.take n)
  | _, _, 0, _ => by rw [List.take_zero, List.take_zero]; exact Reps.nil
  | [], _, n + 1, h => by rw [Reps.nil_iff.mp h]; exact Reps.nil
  | e :: ds, vs, n + 1, h => by
    obtain ⟨u, r, e1, e2, e3⟩ := Reps.cons_iff.mp h
    rw [e1]; exact Reps.cons e2 (Reps.take n e3)
theorem Reps.drop : ∀ {ds : List D} {vs : List V} (n : Nat), Reps g F ds vs → Reps g F (ds.drop n) (vs.drop n)
  | _, _, 0, h => by rw [List.drop_zero, List.drop_zero]; exact h
  | [], _, n + 1, h => by rw [Reps.nil_iff.mp h]; exact Reps.nil
  | e :: ds, vs, n + 1, h => by
    obtain ⟨u, r, e1, e2, e3⟩ := Reps.cons_iff.mp h
    rw [e1]; exact Reps.drop n e3
theorem Reps.rep {ds : List D} {vs : List V} (h : Reps g F ds vs) : ∀ k : Nat, Reps g F (List.replicate k ds).flatten (List.replicate k vs).flatten
  | 0 => Reps.nil
  | k + 1 => by
    rw [List.replicate_succ, List.replicate_succ, List.flatten_cons, List.flatten_cons]
    exact h.append (Reps.rep h k)
end
def CellOk (g : G) (F H : Hp) (as : List Addr) (a : Addr) : C → Prop
  | .lst ds => F a = none ∧ ∃ vs, H a = some (.lst vs) ∧ Reps g F ds vs
  | .frz d => Rep g F d (.ref a)
  | .ins c fs => F a = none ∧ ∃ dx vs, H a = some (.ins (g.cad c) dx ((fs.map (·.1)).zip vs)) ∧ vs.length = fs.length ∧ Reps g F (fs.map (·.2)) vs
  | .pot j ds => F a = none ∧ ∃ b us, as[j]? = some b ∧ H a = some (.lst (.ref b :: us)) ∧ Reps g F ds us
  | .dct kvs => F a = none ∧ ∃ ws, H a = some (.dK ws) ∧ Paired (fun (p : Key × D) (q : Key × V) => p.1 = q.1 ∧ Rep g F p.2 q.2) kvs ws
  | .bk c fs => F a = none ∧ ∃ (dx : Addr) (bs : List Addr), H a = some (.ins (g.cad c) dx ((fs.map (·.1)).zip (bs.map V.ref))) ∧ bs.length = fs.length ∧ ∀ (i : Nat) (q : Str × Nat), fs[i]? = some q → ∃ b, bs[i]? = some b ∧ as[q.2]? = some b
/-- the tables of code objects -/
def TbOk (g : G) (F : Hp) (as : List Addr) (H : Hp) : Prop := ∀ p ∈ g.tbs, ∃ ps : Array Value, H p.1 = some (.tbl ps) ∧ TriplesOk ps.toList ∧ (F p.1 = none ∧ p.1 ∉ as) ∧ ∀ (pos : Pos) (cv : Value), codeAmong pos ps.toList = some cv → ∃ c, cv = .ref c ∧ F c = some (LamX.CodeO c p.2)
theorem TbOk.of {g : G} {F F' H H' : Hp} {as as' : List Addr} (t : TbOk g F as H) (hH : ∀ b ps, H b = some (.tbl ps) → b ∉ as → H' b = some (.tbl ps)) (hF : Same F F') (hn : ∀ b ps, H b = some (.tbl ps) → F b = none → b ∉ as → F' b = none ∧ b ∉ as') : TbOk g F' as' H' := fun p hp => by
  obtain ⟨ps, h1, h2, h3, h4⟩ := t p hp
  refine ⟨ps, hH _ _ h1 h3.2, h2, hn _ _ h1 h3.1 h3.2, fun pos cv hc => ?_⟩
  obtain ⟨c, e1, e2⟩ := h4 pos cv hc
  exact ⟨c, e1, hF _ _ e2⟩
structure SR (g : G) (F : Hp) (as : List Addr) (μ : Sto) (H : Hp) : Prop where
  sub : Same F H
  len : as.length = μ.length
  cells : ∀ (k : Nat) (a : Addr) (c : C), as[k]? = some a → μ[k]? = some c → CellOk g F H (as.take k) a c
  nd : as.Nodup
  live : ∀ a, a ∈ as → ∃ o, H a = some o
  tb : TbOk g F as H
/-- the frozen part grows, cells come behind -/
def Ext (F : Hp) (as : List Addr) (F' : Hp) (as' : List Addr) : Prop := Same F F' ∧ ∃ l, as' = as ++ l
theorem Ext.refl {F : Hp} {as : List Addr} : Ext F as F as := ⟨Same.refl _, [], (List.append_nil _).symm⟩
theorem Ext.trans {F F1 F2 : Hp} {as as1 as2 : List Addr} (a : Ext F as F1 as1) (b : Ext F1 as1 F2 as2) : Ext F as F2 as2 := by
  obtain ⟨a1, l, e1⟩ := a
  obtain ⟨b1, m, e2⟩ := b
  exact ⟨a1.trans b1, l ++ m, by rw [e2, e1, List.append_assoc]⟩
/-- what a slot's thing stands for -/
def RS (g : G) (F : Hp) (as : List Addr) : S → V → Prop
  | .val d, v => Rep g F d v
  | .cell k, v => ∃ a, as[k]? = some a ∧ v = .ref a
  | .fr _, _ => False
  | .pot _ _ _, _ => False
  | .any, _ => True
/-- what an expression's answer stands for -/
def RA (g : G) (F : Hp) (as : List Addr) (H : Hp) : S → V → Prop
  | .fr ds, v => ∃ p vs, v = .ref p ∧ H p = some (.lst vs) ∧ F p = none ∧ p ∉ as ∧ Reps g F ds vs
  | .pot none is ds, v => ∃ p q vs us, v = .ref p ∧ H p = some (.lst (.ref q :: us)) ∧ F p = none ∧ p ∉ as ∧ H q = some (.lst vs) ∧ F q = none ∧ q ∉ as ∧ p ≠ q ∧ Reps g F is vs ∧ Reps g F ds us
  | .pot (some j) _ ds, v => ∃ p b us, v = .ref p ∧ H p = some (.lst (.ref b :: us)) ∧ F p = none ∧ p ∉ as ∧ as[j]? = some b ∧ Reps g F ds us
  | s, v => RS g F as s v
theorem RS.ra {g : G} {F : Hp} {as : List Addr} {H : Hp} {s : S} {v : V} (h : RS g F as s v) : RA g F as H s v := by
  cases s with
  | fr ds => exact (show False from h).elim
  | pot j is ds => exact (show False from h).elim
  | _ => exact h
theorem RS.mono {g : G} {F F' : Hp} {as as' : List Addr} {s : S} {v : V} (e : Ext F as F' as') (h : RS g F as s v) : RS g F' as' s v := by
  cases s with
  | val d => exact Rep.mono e.1 h
  | cell k =>
    obtain ⟨a, h1, h2⟩ := (show ∃ a, as[k]? = some a ∧ v = .ref a from h)
    obtain ⟨_, l, rfl⟩ := e
    exact ⟨a, by rw [List.getElem?_append_left (List.getElem?_eq_some_iff.mp h1).1]; exact h1, h2⟩
  | fr ds => exact h
  | pot j is ds => exact h
  | any => trivial
/-- the slots -/
structure ER (g : G) (F : Hp) (as : List Addr) (ρ : En) (σ : St) : Prop where
  len : ρ.length ≤ σ.length
  at_ : ∀ (i : Nat) (s : S), ρ[i]? = some (some s) → ∃ v, σ[i]? = some (some v) ∧ RS g F as s v
theorem ER.mono {g : G} {F F' : Hp} {as as' : List Addr} {ρ : En} {σ : St} (e : Ext F as F' as') (h : ER g F as ρ σ) : ER g F' as' ρ σ := ⟨h.len, fun i s q => by
  obtain ⟨v, h1, h2⟩ := h.at_ i s q
  exact ⟨v, h1, h2.mono e⟩⟩
theorem ER.set {g : G} {F : Hp} {as : List Addr} {ρ : En} {σ : St} {i : Nat} {s : S} {v : V} (h : ER g F as ρ σ) (r : RS g F as s v) : ER g F as (ρ.set i (some s)) (σ.set i (some v)) := by
  refine ⟨by rw [List.length_set, List.length_set]; exact h.len, fun j t q => ?_⟩
  by_cases e : j = i
  · subst e
    by_cases hj : j < ρ.length
    · rw [List.getElem?_set_self hj] at q
      cases q
      exact ⟨v, List.getElem?_set_self (Nat.lt_of_lt_of_le hj h.len), r⟩
    · rw [List.getElem?_eq_none (by rw [List.length_set]; omega)] at q
      cases q
  · rw [List.getElem?_set_ne (Ne.symm e)] at q
    rw [List.getElem?_set_ne (Ne.symm e)]
    exact h.at_ j t q
section
variable {g : G} {F H : Hp} {as : List Addr} {μ : Sto} {p : Addr} {o : HO}
theorem same_upd {H : Hp} {p : Addr} {o : HO} (h : H p = none) : Same H (upd H p o) := fun b u e => by rw [upd_ne (ne_of_none e h)]; exact e
theorem CellOk.mono {F' H' : Hp} {a : Addr} {bs : List Addr} (e : Same F F') (hF : F a = none → F' a = none) (hH : H' a = H a) : ∀ {c : C}, CellOk g F H bs a c → CellOk g F' H' bs a c
  | .lst ds, h => by
    obtain ⟨h0, vs, h1, h2⟩ := h
    exact ⟨hF h0, vs, by rw [hH]; exact h1, h2.mono e⟩
  | .frz d, h => Rep.mono e (show Rep g F d (.ref a) from h)
  | .ins c fs, h => by
    obtain ⟨h0, dx, vs, h1, h2, h3⟩ := h
    exact ⟨hF h0, dx, vs, by rw [hH]; exact h1, h2, h3.mono e⟩
  | .pot j ds, h => by
    obtain ⟨h0, b, us, h1, h2, h3⟩ := h
    exact ⟨hF h0, b, us, h1, by rw [hH]; exact h2, h3.mono e⟩
  | .dct kvs, h => by
    obtain ⟨h0, ws, h1, h2⟩ := h
    exact ⟨hF h0, ws, by rw [hH]; exact h1, Paired.mapP h2 fun _ _ z => ⟨z.1, z.2.mono e⟩⟩
  | .bk c fs, h => by
    obtain ⟨h0, dx, bs, h1, h2, h3⟩ := h
    exact ⟨hF h0, dx, bs, by rw [hH]; exact h1, h2, h3⟩
/-- a new object, at once frozen -/
theorem SR.frozen (r : SR g F as μ H) (hp : H p = none) : SR g (upd F p o) as μ (upd H p o) ∧ Ext F as (upd F p o) as ∧ upd F p o p = some o := by
  have fp : F p = none := r.sub.free hp
  have ne : ∀ a, a ∈ as → a ≠ p := fun a ha => by
    obtain ⟨u, e⟩ := r.live a ha
    exact ne_of_none e hp
  have s1 : Same F (upd F p o) := same_upd fp
  refine ⟨⟨fun b u e => ?_, r.len, fun k a c e1 e2 => ?_, r.nd, fun a ha => ?_, r.tb.of (fun b ps e _ => by rw [upd_ne (ne_of_none e hp)]; exact e) s1 fun b ps e n m => ⟨by rw [upd_ne (ne_of_none e hp)]; exact n, m⟩⟩, ⟨s1, [], (List.append_nil _).symm⟩, upd_same⟩
  · by_cases hb : b = p
    · rw [hb, upd_same] at e; rw [hb, upd_same]; exact e
    · rw [upd_ne hb] at e; rw [upd_ne hb]; exact r.sub _ _ e
  · have na := ne a (List.mem_of_getElem? e1)
    exact (r.cells k a c e1 e2).mono s1 (fun z => by rw [upd_ne na]; exact z) (upd_ne na)
  · rw [upd_ne (ne a ha)]; exact r.live a ha
/-- a new object that nothing holds yet -/
theorem SR.loose (r : SR g F as μ H) (hp : H p = none) : SR g F as μ (upd H p o) ∧ F p = none ∧ p ∉ as := by
  have fp : F p = none := r.sub.free hp
  have ne : ∀ a, a ∈ as → a ≠ p := fun a ha => by
    obtain ⟨u, e⟩ := r.live a ha
    exact ne_of_none e hp
  refine ⟨⟨r.sub.trans (same_upd hp), r.len, fun k a c e1 e2 => ?_, r.nd, fun a ha => ?_, r.tb.of (fun b ps e _ => by rw [upd_ne (ne_of_none e hp)]; exact e) (Same.refl _) fun b ps e n m => ⟨n, m⟩⟩, fp, fun hm => ne p hm rfl⟩
  · have na := ne a (List.mem_of_getElem? e1)
    exact (r.cells k a c e1 e2).mono (Same.refl _) (fun z => z) (upd_ne na)
  · rw [upd_ne (ne a ha)]; exact r.live a ha
/-- a loose list is frozen -/
theorem SR.freeze {vs : List V} (r : SR g F as μ H) (hp : H p = some o) (fp : F p = none) (na : p ∉ as) (ho : ∀ ps, o ≠ .tbl ps := by intro ps z; cases z) : SR g (upd F p o) as μ H ∧ Ext F as (upd F p o) as ∧ upd F p o p = some o := by
  have ne : ∀ a, a ∈ as → a ≠ p := fun a ha e => na (e ▸ ha)
  have s1 : Same F (upd F p o) := same_upd fp
  refine ⟨⟨fun b u e => ?_, r.len, fun k a c e1 e2 => ?_, r.nd, r.live, r.tb.of (fun b ps e _ => e) s1 fun b ps e n m => ⟨by rw [upd_ne (fun z => ho ps (Option.some.inj (hp.symm.trans (by rw [← z]; exact e))))]; exact n, m⟩⟩, ⟨s1, [], (List.append_nil _).symm⟩, upd_same⟩
  · by_cases hb : b = p
    · rw [hb, upd_same] at e; rw [hb, ← e]; exact hp
    · rw [upd_ne hb] at e; exact r.sub _ _ e
  · have na := ne a (List.mem_of_getElem? e1)
    exact (r.cells k a c e1 e2).mono s1 (fun z => by rw [upd_ne na]; exact z) rfl
/-- a loose object becomes a cell -/
theorem SR.push {c : C} (r : SR g F as μ H) (hp : H p = some o) (na : p ∉ as) (hc : CellOk g F H as p c) (ho : ∀ ps, o ≠ .tbl ps := by intro ps z; cases z) : SR g F (as ++ [p]) (μ ++ [c]) H ∧ Ext F as F (as ++ [p]) := by
  refine ⟨⟨r.sub, by rw [List.length_append, List.length_append, r.len]; rfl, fun k a c' e1 e2 => ?_, ?_, fun a ha => ?_, r.tb.of (fun b ps e _ => e) (Same.refl _) fun b ps e n m => ⟨n, fun hm => (List.mem_append.mp hm).elim m fun z => ho ps (Option.some.inj (hp.symm.trans (by rw [← List.mem_singleton.mp z]; exact e)))⟩⟩, Same.refl _, [p], rfl⟩
  · by_cases hk : k < as.length
    · rw [List.getElem?_append_left hk] at e1
      rw [List.getElem?_append_left (by rw [← r.len]; exact hk)] at e2
      rw [List.take_append_of_le_length (Nat.le_of_lt hk)]
      exact r.cells k a c' e1 e2
    · rw [List.getElem?_append_right (by omega)] at e1
      rw [List.getElem?_append_right (by have := r.len; omega)] at e2
      rw [r.len] at e1
      cases hz : k - μ.length with
      | zero =>
        rw [hz] at e1 e2
        simp only [List.getElem?_cons_zero, Option.some.injEq] at e1 e2
        subst e1 e2
        have ek : k = as.length := by have := r.len; omega
        rw [ek, List.take_left]
        exact hc
      | succ n => rw [hz] at e1; simp at e1
  · rw [List.nodup_append]
    exact ⟨r.nd, by simp, fun a ha b hb => by
      have : b = p := by simpa using hb
      subst this
      exact fun e => na (e ▸ ha)⟩
  · rcases List.mem_append.mp ha with h | h
    · exact r.live a h
    · have : a = p := by simpa using h
      subst this
      exact ⟨o, hp⟩
theorem nd_at {as : List Addr} (nd : as.Nodup) {i j : Nat} {a : Addr} (hi : as[i]? = some a) (hj : as[j]? = some a) : i = j := by
  obtain ⟨h1, e1⟩ := List.getElem?_eq_some_iff.mp hi
  obtain ⟨h2, e2⟩ := List.getElem?_eq_some_iff.mp hj
  exact (List.getElem_inj nd).mp (e1.trans e2.symm)
/-- a cell's object changed -/
theorem SR.write {k : Nat} {a : Addr} {c : C} (r : SR g F as μ H) (ha : as[k]? = some a) (fa : F a = none) (hc : CellOk g F (upd H a o) (as.take k) a c) : SR g F as (μ.set k c) (upd H a o) := by
  refine ⟨fun b u e => ?_, by rw [List.length_set]; exact r.len, fun j b c' e1 e2 => ?_, r.nd, fun b hb => ?_, r.tb.of (fun b ps e m => by rw [upd_ne (fun z => m (by rw [z]; exact List.mem_of_getElem? ha))]; exact e) (Same.refl _) fun b ps e n m => ⟨n, m⟩⟩
  · have nb : b ≠ a := fun z => by rw [z, fa] at e; cases e
    rw [upd_ne nb]; exact r.sub _ _ e
  · by_cases hj : j = k
    · subst hj
      rw [ha] at e1
      have hl : j < μ.length := by rw [← r.len]; exact (List.getElem?_eq_some_iff.mp ha).1
      rw [List.getElem?_set_self hl] at e2
      cases e1; cases e2
      exact hc
    · rw [List.getElem?_set_ne (Ne.symm hj)] at e2
      have nb : b ≠ a := fun z => hj (nd_at r.nd e1 (z ▸ ha))
      exact (r.cells j b c' e1 e2).mono (Same.refl _) (fun z => z) (upd_ne nb)
  · by_cases z : b = a
    · subst z; exact ⟨o, upd_same⟩
    · rw [upd_ne z]; exact r.live b hb
/-- a list cell is frozen where it stands -/
theorem SR.still {k : Nat} {a : Addr} {d : D} (r : SR g F as μ H) (ha : as[k]? = some a) (hp : H a = some o) (fa : F a = none) (hd : Rep g (upd F a o) d (.ref a)) : SR g (upd F a o) as (μ.set k (.frz d)) H ∧ Ext F as (upd F a o) as := by
  have s1 : Same F (upd F a o) := same_upd fa
  refine ⟨⟨fun b u e => ?_, by rw [List.length_set]; exact r.len, fun j b c' e1 e2 => ?_, r.nd, r.live, r.tb.of (fun b ps e _ => e) s1 fun b ps e n m => ⟨by rw [upd_ne (fun z => m (by rw [z]; exact List.mem_of_getElem? ha))]; exact n, m⟩⟩, s1, [], (List.append_nil _).symm⟩
  · by_cases hb : b = a
    · rw [hb, upd_same] at e; rw [hb, ← e]; exact hp
    · rw [upd_ne hb] at e; exact r.sub _ _ e
  · by_cases hj : j = k
    · subst hj
      rw [ha] at e1
      have hl : j < μ.length := by rw [← r.len]; exact (List.getElem?_eq_some_iff.mp ha).1
      rw [List.getElem?_set_self hl] at e2
      cases e1; cases e2
      exact hd
    · rw [List.getElem?_set_ne (Ne.symm hj)] at e2
      have nb : b ≠ a := fun z => hj (nd_at r.nd e1 (z ▸ ha))
      exact (r.cells j b c' e1 e2).mono s1 (fun z => by rw [upd_ne nb]; exact z) rfl
/-- the store cut back -/
theorem SR.cut (r : SR g F as μ H) (n : Nat) : SR g F (as.take n) (μ.take n) H := by
  refine ⟨r.sub, by rw [List.length_take, List.length_take, r.len], fun k a c e1 e2 => ?_, r.nd.sublist (List.take_sublist _ _), fun a ha => r.live a (List.mem_of_mem_take ha), r.tb.of (fun b ps e _ => e) (Same.refl _) fun b ps e n m => ⟨n, fun hm => m (List.mem_of_mem_take hm)⟩⟩
  have hk : k < n := by
    by_cases h : k < n
    · exact h
    · rw [List.getElem?_take_eq_none (by omega)] at e1; cases e1
  rw [List.getElem?_take_of_lt hk] at e1 e2
  rw [List.take_take, Nat.min_eq_left (Nat.le_of_lt hk)]
  exact r.cells k a c e1 e2
end
end Sz
set_option Elab.async false
set_option linter.all false
set_option maxRecDepth 100000
set_option maxHeartbeats 4000000
namespace Sz
open PySem PySem.Spec L2
section
variable (X : Cx)
abbrev wpE (e : Expr) : TE := fun σ H Q => ∀ (pins : List (Addr × Obj)) (s : Shared), Inv X pins σ H s → wpAny (model X.prog X.w) X.A (eval e X.env) (EP X pins σ Q) X.xe s
abbrev wpT (e : Expr) : TT := fun σ H Q => ∀ (pins : List (Addr × Obj)) (s : Shared), Inv X pins σ H s → wpAny (model X.prog X.w) X.A (isTrue e X.env (eval e X.env)) (TP X pins σ Q) X.xe s
abbrev wpW (e : Expr) : TT := fun σ H Q => ∀ (whole : Sem Value) (pins : List (Addr × Obj)) (s : Shared), Inv X pins σ H s → wpAny (model X.prog X.w) X.A (isTrue e X.env whole) (TP X pins σ Q) X.xe s
abbrev wpA (es : List Expr) : TA := fun σ H Q => ∀ (pos : Pos) (pins : List (Addr × Obj)) (s : Shared), Inv X pins σ H s → wpAny (model X.prog X.w) X.A (spliced (backTo pos (starEach es X.env))) (AP X pins σ Q) X.xe s
abbrev wpK (ks : List Keyword) : TA := fun σ H Q => ∀ (pos : Pos) (pins : List (Addr × Obj)) (s : Shared), Inv X pins σ H s → wpAny (model X.prog X.w) X.A (evalAll ((backToKw pos (keywordEach ks X.env)).map (·.2))) (AP X pins σ Q) X.xe s
abbrev wpS (st : Stmt) : TS := fun D σ H => ∀ (pins : List (Addr × Obj)) (s : Shared), Inv X pins σ H s → wpAny (model X.prog X.w) X.A (exec st X.env) (SP X pins D) X.xe s
abbrev wpB (st : List Stmt) : TS := fun D σ H => ∀ (pins : List (Addr × Obj)) (s : Shared), Inv X pins σ H s → wpAny (model X.prog X.w) X.A (execs st X.env) (SP X pins D) X.xe s
end
section
variable {X : Cx} {e : Expr} {es : List Expr} {ks : List Keyword} {st : Stmt} {sts : List Stmt} {σ : L2.St} {H : Hp} {Q : VK}
theorem pe_wp : PE X e (wpE X e) := ⟨fun pins s _ _ _ I h => h pins s I⟩
theorem pt_wp : PT X e (wpT X e) := ⟨fun pins s _ _ _ I h => h pins s I⟩
theorem pw_wp : PW X e (wpW X e) := ⟨fun wh pins s _ _ _ I h => h wh pins s I⟩
theorem pa_wp : PA X es (wpA X es) := ⟨fun pos pins s _ _ _ I h => h pos pins s I⟩
theorem pk_wp : PK X ks (wpK X ks) := ⟨fun pos pins s _ _ _ I h => h pos pins s I⟩
theorem ps_wp : PS X st (wpS X st) := ⟨fun pins s _ _ _ I h => h pins s I⟩
theorem pss_wp : PSs X sts (wpB X sts) := ⟨fun pins s _ _ _ I h => h pins s I⟩
theorem wE {t : TE} (h : PE X e t) (q : t σ H Q) : wpE X e σ H Q := fun pins s I => h.run pins s σ H Q I q
theorem wT {t : TT} {Q : Bool → Hp → Prop} (h : PT X e t) (q : t σ H Q) : wpT X e σ H Q := fun pins s I => h.run pins s σ H Q I q
theorem wW {t : TT} {Q : Bool → Hp → Prop} (h : PW X e t) (q : t σ H Q) : wpW X e σ H Q := fun wh pins s I => h.run wh pins s σ H Q I q
theorem wA {t : TA} {Q : List V → Hp → Prop} (h : PA X es t) (q : t σ H Q) : wpA X es σ H Q := fun pos pins s I => h.run pos pins s σ H Q I q
theorem wK {t : TA} {Q : List V → Hp → Prop} (h : PK X ks t) (q : t σ H Q) : wpK X ks σ H Q := fun pos pins s I => h.run pos pins s σ H Q I q
theorem wS {t : TS} {D : Ends} (h : PS X st t) (q : t D σ H) : wpS X st D σ H := fun pins s I => h.run pins s σ H D I q
theorem wB {t : TS} {D : Ends} (h : PSs X sts t) (q : t D σ H) : wpB X sts D σ H := fun pins s I => h.run pins s σ H D I q
theorem wpE_mono {Q Q' : VK} (h : wpE X e σ H Q) (i : ∀ v H', Q v H' → Q' v H') : wpE X e σ H Q' := fun pins s I => thn (h pins s I) fun u s' ⟨v, H', I', r, q⟩ => ⟨v, H', I', r, i v H' q⟩
end
/-- what an exception stands for -/
def RX (g : G) (F H : Hp) : Ex → Value → Option Addr → Prop
  | .own c fs, cls, d => cls = .ref (g.cad c) ∧ ((fs = [] ∧ d = none) ∨ ∃ a vs, fs ≠ [] ∧ d = some a ∧ H a = some (.xd ((g.fl c).zip vs)) ∧ vs.length = (g.fl c).length ∧ Reps g F fs vs)
/-- what is wanted of an exception -/
def PErr (g : G) (W : WX) (F : Hp) (as : List Addr) (σ : L2.St) (x : Ex) (μ' : Sto) : Prop :=
  ∀ F' as' cls d H', Ext F as F' as' → SR g F' as' μ' H' → RX g F' H' x cls d → W cls d σ H'
def PostE (g : G) (W : WX) (F : Hp) (as : List Addr) (σ : L2.St) (Q : VK) : Except Ex S → Sto → Prop
  | .ok s, μ' => ∀ F' as' v H', Ext F as F' as' → SR g F' as' μ' H' → RA g F' as' H' s v → Q v H'
  | .error x, μ' => PErr g W F as σ x μ'
def PostT (g : G) (W : WX) (F : Hp) (as : List Addr) (σ : L2.St) (Q : Bool → Hp → Prop) : Except Ex Bool → Sto → Prop
  | .ok b, μ' => ∀ F' as' H', Ext F as F' as' → SR g F' as' μ' H' → Q b H'
  | .error x, μ' => PErr g W F as σ x μ'
def RSs (g : G) (F : Hp) (as : List Addr) (ss : List S) (vs : List V) : Prop := Paired (RS g F as) ss vs
def PostA (g : G) (W : WX) (F : Hp) (as : List Addr) (σ : L2.St) (Q : List V → Hp → Prop) : Except Ex (List S) → Sto → Prop
  | .ok ss, μ' => ∀ F' as' vs H', Ext F as F' as' → SR g F' as' μ' H' → RSs g F' as' ss vs → Q vs H'
  | .error x, μ' => PErr g W F as σ x μ'
theorem PErr.ext {g : G} {W : WX} {F F1 : Hp} {as as1 : List Addr} {σ : L2.St} {x : Ex} {μ : Sto} (e : Ext F as F1 as1) (h : PErr g W F as σ x μ) : PErr g W F1 as1 σ x μ :=
  fun F' as' cls d H' e' r q => h F' as' cls d H' (e.trans e') r q
theorem RSs.mono {g : G} {F F' : Hp} {as as' : List Addr} {ss : List S} {vs : List V} (e : Ext F as F' as') (h : RSs g F as ss vs) : RSs g F' as' ss vs := Paired.mapP h fun _ _ r => r.mono e
/-- a run of the shallow code: tests, argument lists -/
abbrev MT := En → Sto → Option (Except Ex Bool × Sto)
abbrev MA := En → Sto → Option (Except Ex (List S) × Sto)
structure SE (g : G) (X : Cx) (W : WX) (e : Expr) (m : ME) : Prop where
  run : ∀ (F : Hp) (as : List Addr) (ρ : En) (μ : Sto) (σ : L2.St) (H : Hp) (Q : VK) (r : Except Ex S) (μ' : Sto), m ρ μ = some (r, μ') → SR g F as μ H → ER g F as ρ σ → PostE g W F as σ Q r μ' → wpE X e σ H Q
structure STe (g : G) (X : Cx) (W : WX) (e : Expr) (m : MT) : Prop where
  run : ∀ (F : Hp) (as : List Addr) (ρ : En) (μ : Sto) (σ : L2.St) (H : Hp) (Q : Bool → Hp → Prop) (r : Except Ex Bool) (μ' : Sto), m ρ μ = some (r, μ') → SR g F as μ H → ER g F as ρ σ → PostT g W F as σ Q r μ' → wpT X e σ H Q
structure SW (g : G) (X : Cx) (W : WX) (e : Expr) (m : MT) : Prop where
  run : ∀ (F : Hp) (as : List Addr) (ρ : En) (μ : Sto) (σ : L2.St) (H : Hp) (Q : Bool → Hp → Prop) (r : Except Ex Bool) (μ' : Sto), m ρ μ = some (r, μ') → SR g F as μ H → ER g F as ρ σ → PostT g W F as σ Q r μ' → wpW X e σ H Q
structure SA (g : G) (X : Cx) (W : WX) (es : List Expr) (m : MA) : Prop where
  run : ∀ (F : Hp) (as : List Addr) (ρ : En) (μ : Sto) (σ : L2.St) (H : Hp) (Q : List V → Hp → Prop) (r : Except Ex (List S)) (μ' : Sto), m ρ μ = some (r, μ') → SR g F as μ H → ER g F as ρ σ → PostA g W F as σ Q r μ' → wpA X es σ H Q
structure SK (g : G) (X : Cx) (W : WX) (ks : List Keyword) (m : MA) : Prop where
  run : ∀ (F : Hp) (as : List Addr) (ρ : En) (μ : Sto) (σ : L2.St) (H : Hp) (Q : List V → Hp → Prop) (r : Except Ex (List S)) (μ' : Sto), m ρ μ = some (r, μ') → SR g F as μ H → ER g F as ρ σ → PostA g W F as σ Q r μ' → wpK X ks σ H Q
/-- one run behind another -/
def andThen {α β : Type} (r : Option (Except Ex α × Sto)) (f : α → Sto → Option (Except Ex β × Sto)) : Option (Except Ex β × Sto) :=
  match r with
  | none => none
  | some (.error x, μ) => some (.error x, μ)
  | some (.ok s, μ) => f s μ
theorem andThen_some {α β : Type} {r : Option (Except Ex α × Sto)} {f : α → Sto → Option (Except Ex β × Sto)} {q : Except Ex β × Sto} (h : andThen r f = some q) :
    (∃ x, r = some (.error x, q.2) ∧ q.1 = .error x) ∨ ∃ s μ, r = some (.ok s, μ) ∧ f s μ = some q := by
  unfold andThen at h
  match r, h with
  | none, h => cases h
  | some (.error x, μ), h =>
    cases h
    exact .inl ⟨x, rfl, rfl⟩
  | some (.ok s, μ), h => exact .inr ⟨s, μ, rfl, h⟩
section
variable {g : G} {X : Cx} {W : WX} {e : Expr} {m : ME} {F : Hp} {as : List Addr} {ρ : En} {μ : Sto} {σ : L2.St} {H : Hp} {β : Type}
/-- an expression, then what follows -/
theorem SE.then_ {Q : VK} {f : S → Sto → Option (Except Ex β × Sto)} {r : Except Ex β} {μ' : Sto} (he : SE g X W e m) (h : andThen (m ρ μ) f = some (r, μ')) (sr : SR g F as μ H) (er : ER g F as ρ σ)
    (hx : ∀ x, r = .error x → PErr g W F as σ x μ')
    (k : ∀ s μ1 F1 as1 v H1, f s μ1 = some (r, μ') → Ext F as F1 as1 → SR g F1 as1 μ1 H1 → ER g F1 as1 ρ σ → RA g F1 as1 H1 s v → Q v H1) : wpE X e σ H Q := by
  rcases andThen_some h with ⟨x, h1, h2⟩ | ⟨s, μ1, h1, h2⟩
  · exact he.run F as ρ μ σ H Q (.error x) μ' h1 sr er (hx x h2)
  · exact he.run F as ρ μ σ H Q (.ok s) μ1 h1 sr er fun F' as' v H' e' r' q => k s μ1 F' as' v H' h2 e' r' (er.mono e') q
theorem STe.then_ {e : Expr} {m : MT} {Q : Bool → Hp → Prop} {f : Bool → Sto → Option (Except Ex β × Sto)} {r : Except Ex β} {μ' : Sto} (he : STe g X W e m) (h : andThen (m ρ μ) f = some (r, μ')) (sr : SR g F as μ H) (er : ER g F as ρ σ)
    (hx : ∀ x, r = .error x → PErr g W F as σ x μ')
    (k : ∀ b μ1 F1 as1 H1, f b μ1 = some (r, μ') → Ext F as F1 as1 → SR g F1 as1 μ1 H1 → ER g F1 as1 ρ σ → Q b H1) : wpT X e σ H Q := by
  rcases andThen_some h with ⟨x, h1, h2⟩ | ⟨s, μ1, h1, h2⟩
  · exact he.run F as ρ μ σ H Q (.error x) μ' h1 sr er (hx x h2)
  · exact he.run F as ρ μ σ H Q (.ok s) μ1 h1 sr er fun F' as' H' e' r' => k s μ1 F' as' H' h2 e' r' (er.mono e')
theorem SA.then_ {es : List Expr} {m : MA} {Q : List V → Hp → Prop} {f : List S → Sto → Option (Except Ex β × Sto)} {r : Except Ex β} {μ' : Sto} (he : SA g X W es m) (h : andThen (m ρ μ) f = some (r, μ')) (sr : SR g F as μ H) (er : ER g F as ρ σ)
    (hx : ∀ x, r = .error x → PErr g W F as σ x μ')
    (k : ∀ ss μ1 F1 as1 vs H1, f ss μ1 = some (r, μ') → Ext F as F1 as1 → SR g F1 as1 μ1 H1 → ER g F1 as1 ρ σ → RSs g F1 as1 ss vs → Q vs H1) : wpA X es σ H Q := by
  rcases andThen_some h with ⟨x, h1, h2⟩ | ⟨s, μ1, h1, h2⟩
  · exact he.run F as ρ μ σ H Q (.error x) μ' h1 sr er (hx x h2)
  · exact he.run F as ρ μ σ H Q (.ok s) μ1 h1 sr er fun F' as' v H' e' r' q => k s μ1 F' as' v H' h2 e' r' (er.mono e') q
theorem SK.then_ {es : List Keyword} {m : MA} {Q : List V → Hp → Prop} {f : List S → Sto → Option (Except Ex β × Sto)} {r : Except Ex β} {μ' : Sto} (he : SK g X W es m) (h : andThen (m ρ μ) f = some (r, μ')) (sr : SR g F as μ H) (er : ER g F as ρ σ)
    (hx : ∀ x, r = .error x → PErr g W F as σ x μ')
    (k : ∀ ss μ1 F1 as1 vs H1, f ss μ1 = some (r, μ') → Ext F as F1 as1 → SR g F1 as1 μ1 H1 → ER g F1 as1 ρ σ → RSs g F1 as1 ss vs → Q vs H1) : wpK X es σ H Q := by
  rcases andThen_some h with ⟨x, h1, h2⟩ | ⟨s, μ1, h1, h2⟩
  · exact he.run F as ρ μ σ H Q (.error x) μ' h1 sr er (hx x h2)
  · exact he.run F as ρ μ σ H Q (.ok s) μ1 h1 sr er fun F' as' v H' e' r' q => k s μ1 F' as' v H' h2 e' r' (er.mono e') q
end
def rt : S → S
  | .fr ds => .val (.lst ds)
  | .pot _ _ _ => .any
  | s => s
def vw (μ : Sto) : S → Option D
  | .val d => some d
  | .fr ds => some (.lst ds)
  | .cell k => match μ[k]? with
    | some (.lst ds) => some (.lst ds)
    | some (.frz d) => some d
    | _ => none
  | _ => none
/-- a value as it stands now: a list at the top may still be changed later -/
def VR (g : G) (F H : Hp) (d : D) (v : V) : Prop := (∃ ds a vs, d = .lst ds ∧ v = .ref a ∧ H a = some (.lst vs) ∧ Reps g F ds vs) ∨ Rep g F d v
section
variable {g : G} {F H : Hp} {as : List Addr} {μ : Sto} {s : S} {v : V} {d : D}
theorem root_ok (sr : SR g F as μ H) (h : RA g F as H s v) : ∃ F', Ext F as F' as ∧ SR g F' as μ H ∧ RS g F' as (rt s) v := by
  cases s with
  | val d => exact ⟨F, .refl, sr, h⟩
  | cell k => exact ⟨F, .refl, sr, h⟩
  | fr ds =>
    obtain ⟨p, vs, e1, e2, e3, e4, e5⟩ := (show ∃ p vs, v = .ref p ∧ H p = some (.lst vs) ∧ F p = none ∧ p ∉ as ∧ Reps g F ds vs from h)
    obtain ⟨r, x, y⟩ := sr.freeze (vs := vs) e2 e3 e4
    refine ⟨_, x, r, ?_⟩
    show Rep g _ (.lst ds) v
    unfold Rep
    exact ⟨p, vs, e1, y, e5.mono x.1⟩
  | pot j is ds => exact ⟨F, .refl, sr, trivial⟩
  | any => exact ⟨F, .refl, sr, trivial⟩
theorem view_rs (sr : SR g F as μ H) (h : RS g F as s v) (e : vw μ s = some d) : VR g F H d v := by
  cases s with
  | val d' =>
    cases e
    exact .inr h
  | fr ds => exact (show False from h).elim
  | cell k =>
    obtain ⟨a, h1, h2⟩ := (show ∃ a, as[k]? = some a ∧ v = .ref a from h)
    unfold vw at e
    simp only at e
    cases q : μ[k]? with
    | none => rw [q] at e; cases e
    | some c =>
      rw [q] at e
      have ok := sr.cells k a c h1 q
      cases c with
      | lst ds =>
        cases e
        obtain ⟨_, vs, e1, e2⟩ := ok
        exact .inl ⟨ds, a, vs, rfl, h2, e1, e2⟩
      | frz d' =>
        cases e
        subst h2
        exact .inr ok
      | ins c fs => cases e
      | pot j ds => cases e
      | dct kvs => cases e
      | bk c fs => cases e
  | pot j is ds => cases e
  | any => cases e
theorem view_ra (sr : SR g F as μ H) (h : RA g F as H s v) (e : vw μ s = some d) : VR g F H d v := by
  cases s with
  | val d' => exact view_rs (s := .val d') sr h e
  | cell k => exact view_rs (s := .cell k) sr h e
  | fr ds =>
    obtain ⟨p, vs, e1, e2, e3, e4, e5⟩ := (show ∃ p vs, v = .ref p ∧ H p = some (.lst vs) ∧ F p = none ∧ p ∉ as ∧ Reps g F ds vs from h)
    cases e
    exact .inl ⟨ds, p, vs, rfl, e1, e2, e5⟩
  | pot j is ds => cases e
  | any => cases e
/-- a slot's thing as a tree: a cell's list is frozen there -/
def toD (μ : Sto) : S → Option (D × Sto)
  | .val d => some (d, μ)
  | .fr ds => some (.lst ds, μ)
  | .cell k => match μ[k]? with
    | some (.lst ds) => some (.lst ds, μ.set k (.frz (.lst ds)))
    | some (.frz d) => some (d, μ)
    | _ => none
  | _ => none
theorem toD_rs {μ' : Sto} (sr : SR g F as μ H) (h : RS g F as s v) (e : toD μ s = some (d, μ')) : ∃ F', Ext F as F' as ∧ SR g F' as μ' H ∧ Rep g F' d v := by
  cases s with
  | val d' =>
    cases e
    exact ⟨F, .refl, sr, h⟩
  | fr ds => exact (show False from h).elim
  | cell k =>
    obtain ⟨a, h1, h2⟩ := (show ∃ a, as[k]? = some a ∧ v = .ref a from h)
    unfold toD at e
    simp only at e
    cases q : μ[k]? with
    | none => rw [q] at e; cases e
    | some c =>
      rw [q] at e
      have ok := sr.cells k a c h1 q
      cases c with
      | lst ds =>
        cases e
        obtain ⟨e0, vs, e1, e2⟩ := ok
        have hr : Rep g (upd F a (.lst vs)) (.lst ds) (.ref a) := by
          unfold Rep
          exact ⟨a, vs, rfl, upd_same, e2.mono (same_upd e0)⟩
        obtain ⟨r, x⟩ := sr.still h1 e1 e0 hr
        exact ⟨_, x, r, by rw [h2]; exact hr⟩
      | frz d' =>
        cases e
        subst h2
        exact ⟨F, .refl, sr, ok⟩
      | ins c fs => cases e
      | pot j ds => cases e
      | dct kvs => cases e
      | bk c fs => cases e
  | pot j is ds => cases e
  | any => cases e
/-- several -/
def toDs (μ : Sto) : List S → Option (List D × Sto)
  | [] => some ([], μ)
  | s :: ss => match toD μ s with
    | none => none
    | some (d, μ1) => match toDs μ1 ss with
      | none => none
      | some (ds, μ2) => some (d :: ds, μ2)
theorem toDs_rs : ∀ {ss : List S} {vs : List V} {F : Hp} {μ μ' : Sto} {ds : List D}, SR g F as μ H → RSs g F as ss vs → toDs μ ss = some (ds, μ') → ∃ F', Ext F as F' as ∧ SR g F' as μ' H ∧ Reps g F' ds vs
  | [], _, F, μ, μ', ds, sr, h, e => by
    cases h
    cases e
    exact ⟨F, .refl, sr, Reps.nil⟩
  | s :: ss, vs, F, μ, μ', ds, sr, h, e => by
    cases h with
    | cons h t =>
      unfold toDs at e
      cases q : toD μ s with
      | none => rw [q] at e; cases e
      | some p =>
        obtain ⟨d, μ1⟩ := p
        rw [q] at e
        simp only at e
        obtain ⟨F1, x1, sr1, r1⟩ := toD_rs sr h q
        cases q2 : toDs μ1 ss with
        | none => rw [q2] at e; cases e
        | some p =>
          obtain ⟨ds', μ2⟩ := p
          rw [q2] at e
          cases e
          obtain ⟨F2, x2, sr2, r2⟩ := toDs_rs sr1 (RSs.mono x1 t) q2
          exact ⟨F2, x1.trans x2, sr2, Reps.cons (Rep.mono x2.1 r1) r2⟩
def vws (μ : Sto) : List S → Option (List D)
  | [] => some []
  | s :: ss => match vw μ s, vws μ ss with
    | some d, some ds => some (d :: ds)
    | _, _ => none
def VRs (g : G) (F H : Hp) (ds : List D) (vs : List V) : Prop := Paired (VR g F H) ds vs
theorem views_rs (sr : SR g F as μ H) : ∀ {ss : List S} {vs : List V} {ds : List D}, RSs g F as ss vs → vws μ ss = some ds → VRs g F H ds vs
  | [], _, _, h, e => by
    cases h
    cases e
    exact .nil
  | s :: ss, _, ds, .cons h t, e => by
    unfold vws at e
    cases q : vw μ s with
    | none => rw [q] at e; simp at e
    | some d =>
      cases q2 : vws μ ss with
      | none => rw [q, q2] at e; simp at e
      | some ds' =>
        rw [q, q2] at e
        simp only [Option.some.injEq] at e
        subst e
        exact .cons (view_rs sr h q) (views_rs sr t q2)
end
end Sz
set_option Elab.async false
set_option linter.all false
set_option maxRecDepth 100000
set_option maxHeartbeats 4000000
namespace Sz
open PySem PySem.Spec L2
def mVar (i : Nat) : ME := fun ρ μ => match ρ[i]? with
  | some (some s) => some (.ok s, μ)
  | _ => none
def mK (d : D) : ME := fun _ μ => some (.ok (.val d), μ)
section
variable {g : G} {X : Cx} {W : WX} {pos : Pos}
theorem se_var {i : Nat} {x : Str} (hN : X.N[i]? = some x) (hv : Vis X.env.scope x) (hd : (x == ("__debug__" : Str)) = false) (hcd : (x == ("__classdict__" : Str)) = false) : SE g X W (.Name x pos) (mVar i) := by
  refine ⟨fun F as ρ μ σ H Q r μ' h sr er post => ?_⟩
  unfold mVar at h
  split at h
  · rename_i s q
    cases h
    obtain ⟨v, e1, e2⟩ := er.at_ i s q
    exact wE (pe_var hN hv hd hcd) ⟨v, e1, post F as v H .refl sr e2.ra⟩
  · cases h
theorem se_k {e : Expr} {d : D} {v : V} (he : PE X e (tC v)) (rep : ∀ F, Rep g F d v) : SE g X W e (mK d) := by
  refine ⟨fun F as ρ μ σ H Q r μ' h sr er post => ?_⟩
  cases h
  exact wE he (post F as v H .refl sr (rep F))
theorem se_int {i : Int} {k : Nat} : SE g X W (.Constant (.int i) k pos) (mK (.int i)) := se_k pe_int fun F => by unfold Rep; rfl
theorem se_bl {b : Bool} {k : Nat} : SE g X W (.Constant (.bool b) k pos) (mK (.bl b)) := se_k pe_bl fun F => by unfold Rep; rfl
theorem se_non {k : Nat} : SE g X W (.Constant .none k pos) (mK .non) := se_k pe_non fun F => by unfold Rep; rfl
theorem se_str {x : Str} {k : Nat} : SE g X W (.Constant (.str x) k pos) (mK (.str x)) := se_k pe_str fun F => by unfold Rep; rfl
end
/-- an operation by its values, whatever the slots -/
abbrev rcan (X : Cx) (f : Value → Value → Sem Value) : R2 := fun x y H Q => ∀ (pins : List (Addr × Obj)) (s : Shared) (σ : L2.St) (v u : Value), Inv X pins σ H s → RelV x v → RelV y u → wpAny (model X.prog X.w) X.A (f v u) (EP X pins σ Q) X.xe s
theorem op_can {X : Cx} {f : Value → Value → Sem Value} : OpR X f (rcan X f) := fun pins s σ H x y v u Q I rx ry h => h pins s σ v u I rx ry
theorem oc {X : Cx} {f : Value → Value → Sem Value} {r : R2} (h : OpR X f r) {x y : V} {H : Hp} {Q : VK} (q : r x y H Q) : rcan X f x y H Q := fun pins s σ v u I rx ry => h pins s σ H x y v u Q I rx ry q
/-- what a two-place operation tells of trees -/
def OpOk (g : G) (X : Cx) (f : Value → Value → Sem Value) (op : D → D → Option S) : Prop :=
  ∀ (x y : D) (s : S) (F : Hp) (as : List Addr) (μ : Sto) (H : Hp) (v u : V) (Q : VK), op x y = some s → SR g F as μ H → VR g F H x v → VR g F H y u →
    (∀ F' as' w H', Ext F as F' as' → SR g F' as' μ H' → RA g F' as' H' s w → Q w H') → rcan X f v u H Q
def fin2 (op : D → D → Option S) (μ : Sto) (s1 s2 : S) : Option R :=
  match vw μ s1, vw μ s2 with
  | some x, some y => (match op x y with
    | some s => some (.ok s, μ)
    | none => none)
  | _, _ => none
theorem fin2_some {op : D → D → Option S} {μ μ' : Sto} {s1 s2 : S} {r : Except Ex S} (h : fin2 op μ s1 s2 = some (r, μ')) : ∃ x y s, vw μ s1 = some x ∧ vw μ s2 = some y ∧ op x y = some s ∧ r = .ok s ∧ μ' = μ := by
  unfold fin2 at h
  split at h
  · rename_i x y h1 h2
    split at h
    · rename_i s h3
      cases h
      exact ⟨x, y, s, h1, h2, h3, rfl, rfl⟩
    · cases h
  · cases h
def mOp2 (op : D → D → Option S) (a b : ME) : ME := fun ρ μ => andThen (a ρ μ) fun s1 μ1 => andThen (b ρ μ1) fun s2 μ2 => fin2 op μ2 (rt s1) s2
section
variable {g : G} {X : Cx} {W : WX} {a b : Expr} {ma mb : ME} {dop : D → D → Option S} {pos : Pos}
theorem two_ok {f : Value → Value → Sem Value} {F : Hp} {as : List Addr} {ρ : En} {μ : Sto} {σ : L2.St} {H : Hp} {Q : VK} {r : Except Ex S} {μ' : Sto} (ho : OpOk g X f dop) (ha : SE g X W a ma) (hb : SE g X W b mb)
    (h : mOp2 dop ma mb ρ μ = some (r, μ')) (sr : SR g F as μ H) (er : ER g F as ρ σ) (post : PostE g W F as σ Q r μ') : wpE X a σ H fun x H1 => wpE X b σ H1 fun y H2 => rcan X f x y H2 Q := by
  refine ha.then_ h sr er (fun x e => by subst e; exact post) fun s1 μ1 F1 as1 v1 H1 h1 x1 sr1 er1 ra1 => ?_
  obtain ⟨F1', x1', sr1', rs1⟩ := root_ok sr1 ra1
  refine hb.then_ h1 sr1' (er1.mono x1') (fun x e => by subst e; exact PErr.ext (x1.trans x1') post) fun s2 μ2 F2 as2 v2 H2 h2 x2 sr2 er2 ra2 => ?_
  obtain ⟨x, y, s, e1, e2, e3, e4, e5⟩ := fin2_some h2
  subst e4 e5
  exact ho x y s F2 as2 μ' H2 v1 v2 Q e3 sr2 (view_rs sr2 (rs1.mono x2) e1) (view_ra sr2 ra2 e2) fun F' as' w H' e' r' q => post F' as' w H' ((x1.trans x1').trans (x2.trans e')) r' q
theorem se_bin {op : Operator} (ho : OpOk g X (binaryOp op) dop) (ha : SE g X W a ma) (hb : SE g X W b mb) : SE g X W (.BinOp a op b pos) (mOp2 dop ma mb) :=
  ⟨fun F as ρ μ σ H Q r μ' h sr er post => wE (pe_op op_can pe_wp pe_wp) (two_ok ho ha hb h sr er post)⟩
theorem se_cmp {op : CmpOp} (ho : OpOk g X (compareOp op) dop) (ha : SE g X W a ma) (hb : SE g X W b mb) (hm : behindInMarks op b = false) : SE g X W (.Compare a [op] [b] pos) (mOp2 dop ma mb) :=
  ⟨fun F as ρ μ σ H Q r μ' h sr er post => wE (pe_cmpR op_can pe_wp pe_wp hm) (two_ok ho ha hb h sr er post)⟩
end
/-- a op1 b op2 c; both give truths -/
def bl? : S → Option Bool
  | .val (.bl b) => some b
  | _ => none
def mChain (op op' : D → D → Option S) (a b c : ME) : ME := fun ρ μ => andThen (a ρ μ) fun s1 μ1 => andThen (b ρ μ1) fun s2 μ2 => andThen (fin2 op μ2 (rt s1) (rt s2)) fun s3 μ3 => match bl? s3 with
  | some true => andThen (c ρ μ3) fun s4 μ4 => fin2 op' μ4 (rt s2) s4
  | some false => some (.ok (.val (.bl false)), μ3)
  | none => none
theorem bl?_some {s : S} {b : Bool} (h : bl? s = some b) : s = .val (.bl b) := by
  unfold bl? at h
  split at h
  · cases h; rfl
  · cases h
section
variable {g : G} {X : Cx} {W : WX} {a b c : Expr} {ma mb mc : ME} {dop dop' : D → D → Option S} {pos : Pos}
theorem chain_ok {op op' : CmpOp} {F : Hp} {as : List Addr} {ρ : En} {μ : Sto} {σ : L2.St} {H : Hp} {Q : VK} {r : Except Ex S} {μ' : Sto} (ho : OpOk g X (compareOp op) dop) (ho' : OpOk g X (compareOp op') dop') (ha : SE g X W a ma) (hb : SE g X W b mb) (hc : SE g X W c mc)
    (h : mChain dop dop' ma mb mc ρ μ = some (r, μ')) (sr : SR g F as μ H) (er : ER g F as ρ σ) (post : PostE g W F as σ Q r μ') : tChain (rcan X (compareOp op)) (rcan X (compareOp op')) (wpE X a) (wpE X b) (wpE X c) σ H Q := by
  refine ha.then_ h sr er (fun x e => by subst e; exact post) fun s1 μ1 F1 as1 v1 H1 h1 x1 sr1 er1 ra1 => ?_
  obtain ⟨F1', x1', sr1', rs1⟩ := root_ok sr1 ra1
  refine hb.then_ h1 sr1' (er1.mono x1') (fun x e => by subst e; exact PErr.ext (x1.trans x1') post) fun s2 μ2 F2 as2 v2 H2 h2 x2 sr2 er2 ra2 => ?_
  obtain ⟨F2', x2', sr2', rs2⟩ := root_ok sr2 ra2
  rcases andThen_some h2 with ⟨x, h3, h4⟩ | ⟨s3, μ3, h3, h4⟩
  · obtain ⟨_, _, _, _, _, _, e, _⟩ := fin2_some h3
    cases e
  · obtain ⟨x, y, s, e1, e2, e3, e4, e5⟩ := fin2_some h3
    cases e4
    subst e5
    have x02 : Ext F as F2' as2 := (x1.trans x1').trans (x2.trans x2')
    refine ho x y s3 F2' as2 μ3 H2 v1 v2 _ e3 sr2' (view_rs sr2' ((rs1.mono x2).mono x2') e1) (view_rs sr2' rs2 e2) fun F3 as3 w H3 x3 sr3 ra3 => ?_
    cases q : bl? s3 with
    | none => rw [q] at h4; cases h4
    | some k =>
      rw [q] at h4
      rw [bl?_some q] at ra3
      refine ⟨k, ra3, ?_⟩
      have er3 : ER g F3 as3 ρ σ := (er2.mono x2').mono x3
      cases k with
      | false =>
        rw [if_neg Bool.false_ne_true]
        cases h4
        exact post F3 as3 _ H3 (x02.trans x3) sr3 rfl
      | true =>
        rw [if_pos rfl]
        refine hc.then_ h4 sr3 er3 (fun x e => by subst e; exact PErr.ext (x02.trans x3) post) fun s4 μ4 F4 as4 v4 H4 h5 x4 sr4 er4 ra4 => ?_
        obtain ⟨x', y', s', e1', e2', e3', e4', e5'⟩ := fin2_some h5
        subst e4' e5'
        exact ho' x' y' s' F4 as4 μ' H4 v2 v4 Q e3' sr4 (view_rs sr4 ((rs2.mono x3).mono x4) e1') (view_ra sr4 ra4 e2') fun F' as' w' H' e' r' q' => post F' as' w' H' ((x02.trans x3).trans (x4.trans e')) r' q'
theorem se_chain {op op' : CmpOp} (ho : OpOk g X (compareOp op) dop) (ho' : OpOk g X (compareOp op') dop') (ha : SE g X W a ma) (hb : SE g X W b mb) (hc : SE g X W c mc) (hm : lastMarks [op, op'] [b, c] = false) :
    SE g X W (.Compare a [op, op'] [b, c] pos) (mChain dop dop' ma mb mc) :=
  ⟨fun F as ρ μ σ H Q r μ' h sr er post => wE (pe_chain op_can op_can pe_wp pe_wp pe_wp hm) (chain_ok ho ho' ha hb hc h sr er post)⟩
end
def UnOk (g : G) (X : Cx) (f : Value → Sem Value) (op : D → Option S) : Prop :=
  ∀ (x : D) (s : S) (F : Hp) (as : List Addr) (μ : Sto) (H : Hp) (v : V) (Q : VK), op x = some s → SR g F as μ H → VR g F H x v →
    (∀ F' as' w H', Ext F as F' as' → SR g F' as' μ H' → RA g F' as' H' s w → Q w H') → ∀ (pins : List (Addr × Obj)) (st : Shared) (σ : L2.St) (a : Value), Inv X pins σ H st → RelV v a → wpAny (model X.prog X.w) X.A (f a) (EP X pins σ Q) X.xe st
def fin1 (op : D → Option S) (μ : Sto) (s1 : S) : Option R :=
  match vw μ s1 with
  | some x => (match op x with
    | some s => some (.ok s, μ)
    | none => none)
  | _ => none
theorem fin1_some {op : D → Option S} {μ μ' : Sto} {s1 : S} {r : Except Ex S} (h : fin1 op μ s1 = some (r, μ')) : ∃ x s, vw μ s1 = some x ∧ op x = some s ∧ r = .ok s ∧ μ' = μ := by
  unfold fin1 at h
  split at h
  · rename_i x h1
    split at h
    · rename_i s h3
      cases h
      exact ⟨x, s, h1, h3, rfl, rfl⟩
    · cases h
  · cases h
def mOp1 (op : D → Option S) (a : ME) : ME := fun ρ μ => andThen (a ρ μ) fun s1 μ1 => fin1 op μ1 s1
def dNeg : D → Option S
  | .int i => some (.val (.int (-i)))
  | _ => none
section
variable {g : G} {X : Cx} {W : WX} {a : Expr} {ma : ME} {pos : Pos} {F H : Hp} {v : V}
theorem vr_int {i : Int} (h : VR g F H (.int i) v) : v = .int i := by
  rcases h with ⟨_, _, _, e, _⟩ | h
  · cases e
  · unfold Rep at h; exact h
theorem vr_bl {b : Bool} (h : VR g F H (.bl b) v) : v = .bl b := by
  rcases h with ⟨_, _, _, e, _⟩ | h
  · cases e
  · unfold Rep at h; exact h
theorem vr_str {x : Str} (h : VR g F H (.str x) v) : v = .str x := by
  rcases h with ⟨_, _, _, e, _⟩ | h
  · cases e
  · unfold Rep at h; exact h
theorem vr_non (h : VR g F H .non v) : v = .non := by
  rcases h with ⟨_, _, _, e, _⟩ | h
  · cases e
  · unfold Rep at h; exact h
theorem vr_lst {as : List Addr} {μ : Sto} {ds : List D} (sr : SR g F as μ H) (h : VR g F H (.lst ds) v) : ∃ a vs, v = .ref a ∧ H a = some (.lst vs) ∧ Reps g F ds vs := by
  rcases h with ⟨ds', a, vs, e, e1, e2, e3⟩ | h
  · cases e
    exact ⟨a, vs, e1, e2, e3⟩
  · unfold Rep at h
    obtain ⟨a, vs, e1, e2, e3⟩ := h
    exact ⟨a, vs, e1, sr.sub _ _ e2, e3⟩
theorem vr_tup {as : List Addr} {μ : Sto} {ds : List D} (sr : SR g F as μ H) (h : VR g F H (.tup ds) v) : ∃ a vs, v = .ref a ∧ SqT g.K H a vs ∧ Reps g F ds vs := by
  rcases h with ⟨ds', a, vs, e, e1, e2, e3⟩ | h
  · cases e
  · unfold Rep at h
    obtain ⟨a, vs, e1, e2, e3⟩ := h
    exact ⟨a, vs, e1, seqT_mono sr.sub e2, e3⟩
theorem vr_scr {as : List Addr} {μ : Sto} {ns : List Int} (sr : SR g F as μ H) (h : VR g F H (.scr ns) v) : ∃ a, v = .ref a ∧ SqL g.K H a (ns.map V.int) := by
  rcases h with ⟨ds', a, vs, e, e1, e2, e3⟩ | h
  · cases e
  · unfold Rep at h
    obtain ⟨a, e1, e2⟩ := h
    exact ⟨a, e1, sr.sub.seq e2⟩
theorem ra_int {as : List Addr} {i : Int} : RA g F as H (.val (.int i)) (.int i) := by show Rep g F _ _; unfold Rep; rfl
theorem ra_bl {as : List Addr} {b : Bool} : RA g F as H (.val (.bl b)) (.bl b) := by show Rep g F _ _; unfold Rep; rfl
theorem ra_str {as : List Addr} {x : Str} : RA g F as H (.val (.str x)) (.str x) := by show Rep g F _ _; unfold Rep; rfl
theorem ra_non {as : List Addr} : RA g F as H (.val .non) .non := by show Rep g F _ _; unfold Rep; rfl
theorem se_un {op : UnaryOp} {dop : D → Option S} (ho : UnOk g X (unaryOp op) dop) (ha : SE g X W a ma) : SE g X W (.UnaryOp op a pos) (mOp1 dop ma) := by
  refine ⟨fun F as ρ μ σ H Q r μ' h sr er post => wE (pe_un (r := fun x H Q => ∀ (pins : List (Addr × Obj)) (st : Shared) (σ : L2.St) (v : Value), Inv X pins σ H st → RelV x v → wpAny (model X.prog X.w) X.A (unaryOp op v) (EP X pins σ Q) X.xe st)
    (fun pins s σ H x v Q I rx h => h pins s σ v I rx) pe_wp) ?_⟩
  refine ha.then_ h sr er (fun x e => by subst e; exact post) fun s1 μ1 F1 as1 v1 H1 h1 x1 sr1 er1 ra1 => ?_
  obtain ⟨x, s, e1, e2, e3, e4⟩ := fin1_some h1
  subst e3 e4
  exact ho x s F1 as1 μ' H1 v1 Q e2 sr1 (view_ra sr1 ra1 e1) fun F' as' w H' e' r' q => post F' as' w H' (x1.trans e') r' q
theorem un_ok_neg : UnOk g X (unaryOp .USub) dNeg := by
  intro x s F as μ H v Q e sr vr k pins st σ a I rx
  unfold dNeg at e
  split at e
  · cases e
    cases vr_int vr
    exact un_neg pins st σ H _ a Q I rx ⟨_, rfl, k F as _ H .refl sr ra_int⟩
  · cases e
end
def mOr (a b : ME) : ME := fun ρ μ => andThen (a ρ μ) fun s μ1 => match bl? s with
  | some false => b ρ μ1
  | some true => some (.ok (.val (.bl true)), μ1)
  | none => none
section
variable {g : G} {X : Cx} {W : WX} {a b : Expr} {rest : List Expr} {ma mb : ME} {pos : Pos}
theorem se_one {op : BoolOp} (ha : SE g X W a ma) : SE g X W (.BoolOp op [a] pos) ma :=
  ⟨fun F as ρ μ σ H Q r μ' h sr er post => wE (pe_one pe_wp) (ha.run F as ρ μ σ H Q r μ' h sr er post)⟩
theorem se_or (ha : SE g X W a ma) (hb : SE g X W (.BoolOp .Or (b :: rest) pos) mb) : SE g X W (.BoolOp .Or (a :: b :: rest) pos) (mOr ma mb) := by
  refine ⟨fun F as ρ μ σ H Q r μ' h sr er post => wE (pe_or pe_wp pe_wp) ?_⟩
  refine ha.then_ h sr er (fun x e => by subst e; exact post) fun s1 μ1 F1 as1 v1 H1 h1 x1 sr1 er1 ra1 => ?_
  cases q : bl? s1 with
  | none => rw [q] at h1; cases h1
  | some k =>
    rw [q] at h1
    rw [bl?_some q] at ra1
    refine ⟨k, ra1, ?_⟩
    cases k with
    | false =>
      rw [if_neg Bool.false_ne_true]
      exact hb.run F1 as1 ρ μ1 σ H1 Q r μ' h1 sr1 er1 (by cases r with
        | ok s => exact fun F' as' v H' e' r' q' => post F' as' v H' (x1.trans e') r' q'
        | error x => exact PErr.ext x1 post)
    | true =>
      rw [if_pos rfl]
      cases h1
      exact post F1 as1 _ H1 x1 sr1 ra_bl
end
def tBl (a : ME) : MT := fun ρ μ => andThen (a ρ μ) fun s μ1 => match bl? s with
  | some b => some (.ok b, μ1)
  | none => none
def tNotM (a : MT) : MT := fun ρ μ => andThen (a ρ μ) fun b μ1 => some (.ok (!b), μ1)
def tOrM (a b : MT) : MT := fun ρ μ => andThen (a ρ μ) fun c μ1 => if c then some (.ok true, μ1) else b ρ μ1
section
variable {g : G} {X : Cx} {W : WX} {a b c : Expr} {rest : List Expr} {ma mb : ME} {ta tb : MT} {pos : Pos}
theorem PostT.ext {F F1 : Hp} {as as1 : List Addr} {σ : L2.St} {Q : Bool → Hp → Prop} {r : Except Ex Bool} {μ : Sto} (e : Ext F as F1 as1) (h : PostT g W F as σ Q r μ) : PostT g W F1 as1 σ Q r μ := by
  cases r with
  | ok b => exact fun F' as' H' e' r' => h F' as' H' (e.trans e') r'
  | error x => exact PErr.ext e h
theorem PostE.ext {F F1 : Hp} {as as1 : List Addr} {σ : L2.St} {Q : VK} {r : Except Ex S} {μ : Sto} (e : Ext F as F1 as1) (h : PostE g W F as σ Q r μ) : PostE g W F1 as1 σ Q r μ := by
  cases r with
  | ok b => exact fun F' as' v H' e' r' q => h F' as' v H' (e.trans e') r' q
  | error x => exact PErr.ext e h
/-- a value that is a truth, as a test -/
theorem tBl_run {F : Hp} {as : List Addr} {ρ : En} {μ : Sto} {σ : L2.St} {H : Hp} {Q : Bool → Hp → Prop} {r : Except Ex Bool} {μ' : Sto} (ha : SE g X W a ma) (h : tBl ma ρ μ = some (r, μ')) (sr : SR g F as μ H) (er : ER g F as ρ σ)
    (post : PostT g W F as σ Q r μ') : wpE X a σ H fun x H1 => ∃ c, x = .bl c ∧ Q c H1 := by
  refine ha.then_ h sr er (fun x e => by subst e; exact post) fun s1 μ1 F1 as1 v1 H1 h1 x1 sr1 er1 ra1 => ?_
  cases q : bl? s1 with
  | none => rw [q] at h1; cases h1
  | some k =>
    rw [q] at h1
    rw [bl?_some q] at ra1
    cases h1
    exact ⟨k, ra1, post F1 as1 H1 x1 sr1⟩
theorem st_val (ha : SE g X W a ma) (he : ∀ whole, isTrue a X.env whole = (do let v ← whole; standAt a.pos; holding [v] (truthy v))) : STe g X W a (tBl ma) :=
  ⟨fun F as ρ μ σ H Q r μ' h sr er post => wT (pt_val pe_wp he) (tBl_run ha h sr er post)⟩
theorem st_cmp {op : CmpOp} {dop : D → D → Option S} (ho : OpOk g X (compareOp op) dop) (ha : SE g X W a ma) (hb : SE g X W b mb) (hm : behindInMarks op b = false) : STe g X W (.Compare a [op] [b] pos) (tBl (mOp2 dop ma mb)) := by
  refine ⟨fun F as ρ μ σ H Q r μ' h sr er post => wT (pt_cmpR op_can pe_wp pe_wp hm) ?_⟩
  show tOp _ _ _ σ H fun x H' => ∃ k, x = .bl k ∧ Q k H'
  rcases andThen_some h with ⟨x, h1, h2⟩ | ⟨s1, μ1, h1, h2⟩
  · dsimp only at h2
    subst h2
    exact two_ok ho ha hb h1 sr er (show PostE g W F as σ _ (.error x) μ' from post)
  · refine two_ok ho ha hb h1 sr er fun F' as' v H' e' r' q => ?_
    cases z : bl? s1 with
    | none => rw [z] at h2; cases h2
    | some k =>
      rw [z] at h2
      rw [bl?_some z] at q
      cases h2
      exact ⟨k, q, post F' as' H' e' r'⟩
theorem st_not (ha : STe g X W a ta) : STe g X W (.UnaryOp .Not a pos) (tNotM ta) := by
  refine ⟨fun F as ρ μ σ H Q r μ' h sr er post => wT (pt_not pt_wp) ?_⟩
  refine ha.then_ h sr er (fun x e => by subst e; exact post) fun b μ1 F1 as1 H1 h1 x1 sr1 er1 => ?_
  cases h1
  exact post F1 as1 H1 x1 sr1
theorem sw_one (op : BoolOp) (ha : STe g X W a ta) : SW g X W (.BoolOp op [a] pos) ta := by
  cases op with
  | And => exact ⟨fun F as ρ μ σ H Q r μ' h sr er post => wW (pw_and1 pt_wp) (ha.run F as ρ μ σ H Q r μ' h sr er post)⟩
  | Or => exact ⟨fun F as ρ μ σ H Q r μ' h sr er post => wW (pw_or1 pt_wp) (ha.run F as ρ μ σ H Q r μ' h sr er post)⟩
theorem sw_or (ha : STe g X W a ta) (hb : SW g X W (.BoolOp .Or (b :: rest) pos) tb) : SW g X W (.BoolOp .Or (a :: b :: rest) pos) (tOrM ta tb) := by
  refine ⟨fun F as ρ μ σ H Q r μ' h sr er post => wW (pw_or pt_wp pw_wp) ?_⟩
  refine ha.then_ h sr er (fun x e => by subst e; exact post) fun k μ1 F1 as1 H1 h1 x1 sr1 er1 => ?_
  cases k with
  | false => rw [if_neg Bool.false_ne_true] at h1 ⊢; exact hb.run F1 as1 ρ μ1 σ H1 Q r μ' h1 sr1 er1 (PostT.ext x1 post)
  | true =>
    rw [if_pos rfl] at h1 ⊢
    cases h1
    exact post F1 as1 H1 x1 sr1
theorem st_pw (h : SW g X W a ta) : STe g X W a ta := ⟨fun F as ρ μ σ H Q r μ' e sr er post => wT (pw_wp.pt) (h.run F as ρ μ σ H Q r μ' e sr er post)⟩
end
end Sz
set_option Elab.async false
set_option linter.all false
set_option maxRecDepth 100000
set_option maxHeartbeats 4000000
namespace Sz
open PySem PySem.Spec L2
mutual
def toPy : D → Option PyData
  | .non => some .none
  | .bl b => some (.bool b)
  | .int i => some (.int i)
  | .str s => some (.str s)
  | .tup ds => match toPys ds with
    | some ps => some (.tuple ps)
    | none => none
  | .lst ds => match toPys ds with
    | some ps => some (.list ps)
    | none => none
  | _ => none
def toPys : List D → Option (List PyData)
  | [] => some []
  | d :: ds => match toPy d, toPys ds with
    | some p, some ps => some (p :: ps)
    | _, _ => none
end
section
variable {g : G} {F H : Hp}
mutual
theorem toPy_rep (e : Same F H) : ∀ {d : D} {v : V} {p : PyData}, toPy d = some p → Rep g F d v → Dp g.K H v p
  | .non, v, p, h, r => by unfold toPy at h; cases h; unfold Rep at r; subst r; exact .non
  | .bl b, v, p, h, r => by unfold toPy at h; cases h; unfold Rep at r; subst r; exact .bl b
  | .int i, v, p, h, r => by unfold toPy at h; cases h; unfold Rep at r; subst r; exact .int i
  | .str s, v, p, h, r => by unfold toPy at h; cases h; unfold Rep at r; subst r; exact .str s
  | .tup ds, v, p, h, r => by
    unfold toPy at h
    cases q : toPys ds with
    | none => rw [q] at h; cases h
    | some ps =>
      rw [q] at h
      cases h
      unfold Rep at r
      obtain ⟨a, vs, rfl, h1, h2⟩ := r
      exact .tup (seqT_mono e h1) (toPys_rep e q h2)
  | .lst ds, v, p, h, r => by
    unfold toPy at h
    cases q : toPys ds with
    | none => rw [q] at h; cases h
    | some ps =>
      rw [q] at h
      cases h
      unfold Rep at r
      obtain ⟨a, vs, rfl, h1, h2⟩ := r
      exact .lst (SqL.of (e _ _ h1)) (toPys_rep e q h2)
  | .ty _, _, _, h, _ => by unfold toPy at h; cases h
  | .obj _ _, _, _, h, _ => by unfold toPy at h; cases h
  | .fn _, _, _, h, _ => by unfold toPy at h; cases h
  | .cls _, _, _, h, _ => by unfold toPy at h; cases h
  | .scr _, _, _, h, _ => by unfold toPy at h; cases h
  | .dic _ _, _, _, h, _ => by unfold toPy at h; cases h
  | .exc _ _, _, _, h, _ => by unfold toPy at h; cases h
theorem toPys_rep (e : Same F H) : ∀ {ds : List D} {vs : List V} {ps : List PyData}, toPys ds = some ps → Reps g F ds vs → DpAll g.K H vs ps
  | [], vs, ps, h, r => by
    unfold toPys at h
    cases h
    rw [Reps.nil_iff.mp r]
    exact .nil
  | d :: ds, vs, ps, h, r => by
    unfold toPys at h
    cases q : toPy d with
    | none => rw [q] at h; simp at h
    | some p =>
      cases q2 : toPys ds with
      | none => rw [q, q2] at h; simp at h
      | some ps' =>
        rw [q, q2] at h
        simp only [Option.some.injEq] at h
        subst h
        obtain ⟨v, r', e1, e2, e3⟩ := Reps.cons_iff.mp r
        subst e1
        exact .cons (toPy_rep e q e2) (toPys_rep e q2 e3)
end
theorem toPy_vr {as : List Addr} {μ : Sto} {d : D} {v : V} {p : PyData} (sr : SR g F as μ H) (h : toPy d = some p) (r : VR g F H d v) : Dp g.K H v p := by
  rcases r with ⟨ds, a, vs, e, e1, e2, e3⟩ | r
  · subst e
    unfold toPy at h
    cases q : toPys ds with
    | none => rw [q] at h; cases h
    | some ps =>
      rw [q] at h
      cases h
      subst e1
      exact .lst (SqL.of e2) (toPys_rep sr.sub q e3)
  · exact toPy_rep sr.sub h r
end
def mulOk (i j : Int) : Bool := !(decide (Builtin.Int.intBits i > shortFactorBits) && decide (Builtin.Int.intBits j > shortFactorBits) && Builtin.Int.intTooBig (Builtin.Int.intBits i + Builtin.Int.intBits j))
theorem mulOk_ok {i j : Int} (h : mulOk i j = true) : IntMulOk i j := by
  unfold mulOk at h
  unfold IntMulOk
  intro z
  rw [z] at h
  cases h
theorem mulOk_of {i j : Int} (h : IntMulOk i j) : mulOk i j = true := by
  unfold IntMulOk at h
  unfold mulOk
  rw [Bool.not_eq_true'] 
  exact Bool.eq_false_iff.mpr h
def dAdd : D → D → Option S
  | .int i, .int j => some (.val (.int (i + j)))
  | .str s, .str t => if s.length + t.length ≤ sizeLine then some (.val (.str (s ++ t))) else none
  | .lst a, .lst b => if a.length + b.length ≤ sizeLine then some (.fr (a ++ b)) else none
  | .tup a, .tup b => if a.length + b.length ≤ sizeLine then some (.val (.tup (a ++ b))) else none
  | _, _ => none
def dMul : D → D → Option S
  | .int i, .int j => if mulOk i j then some (.val (.int (i * j))) else none
  | .lst a, .int k => if -(2 ^ 63) ≤ k ∧ k < 2 ^ 63 ∧ a.length * k.toNat ≤ sizeLine then some (.fr (List.replicate k.toNat a).flatten) else none
  | _, _ => none
def dFdiv : D → D → Option S
  | .int i, .int j => if j ≠ 0 ∧ j.natAbs.log2 < 9000 then some (.val (.int (i.fdiv j))) else none
  | _, _ => none
def dMod : D → D → Option S
  | .int i, .int j => if j ≠ 0 then some (.val (.int (i.fmod j))) else none
  | _, _ => none
def dPow : D → D → Option S
  | .int i, .int j => if 0 ≤ j ∧ (Builtin.Int.intBits i : Int) * j ≤ 2 ^ 27 then some (.val (.int (i ^ j.toNat))) else none
  | _, _ => none
section
variable {g : G} {X : Cx}
theorem fdiv_rule : OpR X (binaryOp .FloorDiv) (rI (fun _ j => j ≠ 0 ∧ j.natAbs.log2 < 9000) fun i j => .int (i.fdiv j)) := opI fun _ _ _ _ _ _ _ hc q => PyProof.Rows.floordiv_int hc.1 q (.inl (PyProof.noPylong_of_log2 hc.2))
theorem mul_rule : OpR X (binaryOp .Mult) (rI (fun i j => IntMulOk i j) fun i j => .int (i * j)) := opI fun _ _ _ _ _ _ _ hc q => PyProof.Rows.mul_int q hc
theorem pow_rule : OpR X (binaryOp .Pow) (rI (fun i j => 0 ≤ j ∧ (Builtin.Int.intBits i : Int) * j ≤ 2 ^ 27) fun i j => .int (i ^ j.toNat)) := opI fun _ _ _ _ _ _ _ hc q => PyProof.Rows.pow_int hc.1 hc.2 q
theorem ra_lst {F H : Hp} {as : List Addr} {p : Addr} {vs : List V} {ds : List D} (h1 : H p = some (.lst vs)) (h2 : F p = none) (h3 : p ∉ as) (h4 : Reps g F ds vs) : RA g F as H (.fr ds) (.ref p) := ⟨p, vs, rfl, h1, h2, h3, h4⟩
theorem ok_add (hg : g.K = X.K) : OpOk g X (binaryOp .Add) dAdd := by
  intro x y s F as μ H v u Q e sr hx hy k
  unfold dAdd at e
  split at e
  · cases e
    cases vr_int hx
    cases vr_int hy
    exact oc op_add ⟨_, _, rfl, rfl, k F as _ H .refl sr ra_int⟩
  · split at e
    · rename_i hz
      cases e
      cases vr_str hx
      cases vr_str hy
      exact oc op_add_str ⟨_, _, rfl, rfl, hz, k F as _ H .refl sr ra_str⟩
    · cases e
  · split at e
    · rename_i hz
      cases e
      obtain ⟨a, vs, rfl, h1, r1⟩ := vr_lst sr hx
      obtain ⟨b, us, rfl, h2, r2⟩ := vr_lst sr hy
      refine oc op_cat ⟨a, b, vs, us, rfl, rfl, h1, h2, by rw [r1.length, r2.length]; exact hz, fun p hp => ?_⟩
      obtain ⟨sr', f, n⟩ := sr.loose (o := .lst (vs ++ us)) hp
      exact k F as _ _ .refl sr' (ra_lst upd_same f n (r1.append r2))
    · cases e
  · rename_i a b
    split at e
    · rename_i hz
      cases e
      obtain ⟨a', vs, rfl, h1, r1⟩ := vr_tup sr hx
      obtain ⟨b', us, rfl, h2, r2⟩ := vr_tup sr hy
      have rep_of : ∀ {d : List D} {v : V}, VR g F H (.tup d) v → Rep g F (.tup d) v := fun {d v} h => by
        rcases h with ⟨_, _, _, e', _⟩ | h
        · cases e'
        · exact h
      refine oc op_catA ⟨a', b', vs, us, rfl, rfl, hg ▸ h1, hg ▸ h2, by rw [r1.length, r2.length]; exact hz, fun z => ?_, fun _ z => ?_, fun _ _ p hp => ?_⟩
      · have ha : a = [] := by
          have := r1.length
          rw [z] at this
          exact List.eq_nil_of_length_eq_zero this.symm
        subst ha
        exact k F as _ H .refl sr (rep_of hy)
      · have hb : b = [] := by
          have := r2.length
          rw [z] at this
          exact List.eq_nil_of_length_eq_zero this.symm
        subst hb
        refine k F as _ H .refl sr ?_
        show Rep g F _ _
        rw [List.append_nil]
        exact rep_of hx
      · obtain ⟨sr', x', y'⟩ := sr.frozen (o := .tup (vs ++ us)) hp
        refine k _ as _ _ x' sr' ?_
        show Rep g _ (.tup (a ++ b)) _
        unfold Rep
        exact ⟨p, _, rfl, SqT.of y', (r1.append r2).mono x'.1⟩
    · cases e
  · cases e
theorem ok_mul : OpOk g X (binaryOp .Mult) dMul := by
  intro x y s F as μ H v u Q e sr hx hy k
  unfold dMul at e
  split at e
  · split at e
    · rename_i hz
      cases e
      cases vr_int hx
      cases vr_int hy
      exact oc mul_rule ⟨_, _, rfl, rfl, mulOk_ok hz, k F as _ H .refl sr ra_int⟩
    · cases e
  · split at e
    · rename_i hz
      cases e
      obtain ⟨a, vs, rfl, h1, r1⟩ := vr_lst sr hx
      cases vr_int hy
      refine oc op_rep ⟨a, _, vs, rfl, rfl, h1, hz.1, hz.2.1, by rw [r1.length]; exact hz.2.2, fun p hp => ?_⟩
      obtain ⟨sr', f, n⟩ := sr.loose (o := .lst (List.replicate _ vs).flatten) hp
      exact k F as _ _ .refl sr' (ra_lst upd_same f n (r1.rep _))
    · cases e
  · cases e
theorem ok_fdiv : OpOk g X (binaryOp .FloorDiv) dFdiv := by
  intro x y s F as μ H v u Q e sr hx hy k
  unfold dFdiv at e
  split at e
  · split at e
    · rename_i hz
      cases e
      cases vr_int hx
      cases vr_int hy
      exact oc fdiv_rule ⟨_, _, rfl, rfl, hz, k F as _ H .refl sr ra_int⟩
    · cases e
  · cases e
theorem ok_mod : OpOk g X (binaryOp .Mod) dMod := by
  intro x y s F as μ H v u Q e sr hx hy k
  unfold dMod at e
  split at e
  · split at e
    · rename_i hz
      cases e
      cases vr_int hx
      cases vr_int hy
      exact oc op_modN ⟨_, _, rfl, rfl, hz, k F as _ H .refl sr ra_int⟩
    · cases e
  · cases e
theorem ok_pow : OpOk g X (binaryOp .Pow) dPow := by
  intro x y s F as μ H v u Q e sr hx hy k
  unfold dPow at e
  split at e
  · split at e
    · rename_i hz
      cases e
      cases vr_int hx
      cases vr_int hy
      exact oc pow_rule ⟨_, _, rfl, rfl, hz, k F as _ H .refl sr ra_int⟩
    · cases e
  · cases e
end
section
variable {g : G}
def ints? : List D → Option (List Int)
  | [] => some []
  | .int i :: ds => (ints? ds).map (i :: ·)
  | _ => none
theorem ints_reps {F : Hp} : ∀ {ds : List D} {ns : List Int} {vs : List V}, ints? ds = some ns → Reps g F ds vs → vs = ns.map V.int
  | [], ns, vs, h, r => by
    cases h
    exact Reps.nil_iff.mp r
  | d :: ds, ns, vs, h, r => by
    cases d with
    | int i =>
      obtain ⟨ns', h1, rfl⟩ := Option.map_eq_some_iff.mp (show (ints? ds).map (i :: ·) = some ns from h)
      obtain ⟨v, r', rfl, h2, h3⟩ := Reps.cons_iff.mp r
      unfold Rep at h2
      rw [h2, ints_reps h1 h3]
      rfl
    | _ => cases h
end
def dLt : D → D → Option S
  | .int i, .int j => some (.val (.bl (decide (i < j))))
  | .str s, .str t => some (.val (.bl (decide (s.cps.toList < t.cps.toList))))
  | .tup ds, .tup es => (match ints? ds, ints? es with
    | some ns, some ms => some (.val (.bl (HT.lexLt ns ms)))
    | _, _ => none)
  | _, _ => none
def dLe : D → D → Option S
  | .int i, .int j => some (.val (.bl (decide (i ≤ j))))
  | _, _ => none
def dGt : D → D → Option S
  | .int i, .int j => some (.val (.bl (decide (j < i))))
  | .tup ds, .tup es => (match toPys ds, toPys es with
    | some ps, some qs => if PySem.W.alike (.tuple ps) (.tuple qs) && SeqAt.shaped (.tuple ps) then some (.val (.bl (PySem.W.dataLt (.tuple qs) (.tuple ps)))) else none
    | _, _ => none)
  | _, _ => none
def dGe : D → D → Option S
  | .int i, .int j => some (.val (.bl (decide (j ≤ i))))
  | _, _ => none
/-- == of data -/
def pyEq (x y : D) : Option Bool := match toPy x, toPy y with
  | some p, some q => if SeqAt.shaped p && SeqAt.shaped q then some (PyData.eqv p q) else none
  | _, _ => none
/-- rows of which no two things are compared -/
def eqEmp : D → D → Option Bool
  | .tup ds, .tup [] => some ds.isEmpty
  | .tup [], .tup es => some es.isEmpty
  | .lst ds, .lst es => if ds.length = es.length then none else some false
  | _, _ => none
def dEq : D → D → Option S
  | .str s, .str t => some (.val (.bl (decide (s = t))))
  | x, y => match pyEq x y with
    | some b => some (.val (.bl b))
    | none => (eqEmp x y).map fun b => .val (.bl b)
def dNe : D → D → Option S
  | .str s, .str t => some (.val (.bl (!decide (s = t))))
  | x, y => match pyEq x y with
    | some b => some (.val (.bl (!b)))
    | none => (eqEmp x y).map fun b => .val (.bl (!b))
section
variable {g : G} {X : Cx}
theorem ok_lt (hg : g.K = X.K) (hu : X.A.units + 64 < cLine) : OpOk g X (compareOp .Lt) dLt := by
  intro x y s F as μ H v u Q e sr hx hy k
  unfold dLt at e
  split at e
  · cases e
    cases vr_int hx
    cases vr_int hy
    exact oc op_lt ⟨_, _, rfl, rfl, k F as _ H .refl sr ra_bl⟩
  · cases e
    cases vr_str hx
    cases vr_str hy
    exact oc op_lt_str ⟨_, _, rfl, rfl, k F as _ H .refl sr ra_bl⟩
  · split at e
    · rename_i ns ms h1 h2
      cases e
      obtain ⟨a, vs, rfl, q1, r1⟩ := vr_tup sr hx
      obtain ⟨b, us, rfl, q2, r2⟩ := vr_tup sr hy
      cases ints_reps h1 r1
      cases ints_reps h2 r2
      exact oc (op_ltT (by omega)) ⟨a, b, ns, ms, rfl, rfl, hg ▸ q1, hg ▸ q2, k F as _ H .refl sr ra_bl⟩
    · cases e
  · cases e
theorem ok_le : OpOk g X (compareOp .LtE) dLe := by
  intro x y s F as μ H v u Q e sr hx hy k
  unfold dLe at e
  split at e
  · cases e
    cases vr_int hx
    cases vr_int hy
    exact oc op_le ⟨_, _, rfl, rfl, k F as _ H .refl sr ra_bl⟩
  · cases e
theorem ok_gt (hg : g.K = X.K) (hu : X.A.units + 64 < cLine) : OpOk g X (compareOp .Gt) dGt := by
  intro x y s F as μ H v u Q e sr hx hy k
  unfold dGt at e
  split at e
  · cases e
    cases vr_int hx
    cases vr_int hy
    exact oc op_gt ⟨_, _, rfl, rfl, k F as _ H .refl sr ra_bl⟩
  · rename_i ds es
    split at e
    · rename_i ps qs h1 h2
      split at e
      · rename_i hz
        cases e
        rw [Bool.and_eq_true] at hz
        have t1 : toPy (.tup ds) = some (.tuple ps) := by unfold toPy; rw [h1]
        have t2 : toPy (.tup es) = some (.tuple qs) := by unfold toPy; rw [h2]
        refine oc (r := fun x y H Q => ∃ d d', Dp X.K H x d ∧ Dp X.K H y d' ∧ PySem.W.alike d d' = true ∧ d ≠ PyData.none ∧ SeqAt.shaped d = true ∧ Q (.bl (PySem.W.dataLt d' d)) H) (fun pins s σ H x y v u Q I rx ry h => ?_) ⟨.tuple ps, .tuple qs, hg ▸ toPy_vr sr t1 hx, hg ▸ toPy_vr sr t2 hy, hz.1, (fun z => by cases z), hz.2, k F as _ H .refl sr ra_bl⟩
        obtain ⟨d, d', hd, he, al, nn, sd, q⟩ := h
        obtain ⟨as, r1⟩ := Dp.reads I d x v hd rx
        obtain ⟨bs, r2⟩ := Dp.reads I d' y u he ry
        exact PySem.W.gt_data r1 r2 al nn (SeqAt.room_of_shaped sd hu) ⟨.bl _, H, I, rfl, q⟩
      · cases e
    · cases e
  · cases e
theorem ok_ge : OpOk g X (compareOp .GtE) dGe := by
  intro x y s F as μ H v u Q e sr hx hy k
  unfold dGe at e
  split at e
  · cases e
    cases vr_int hx
    cases vr_int hy
    exact oc op_ge ⟨_, _, rfl, rfl, k F as _ H .refl sr ra_bl⟩
  · cases e
theorem pyEq_some {x y : D} {b : Bool} (h : pyEq x y = some b) : ∃ p q, toPy x = some p ∧ toPy y = some q ∧ SeqAt.shaped p = true ∧ SeqAt.shaped q = true ∧ PyData.eqv p q = b := by
  unfold pyEq at h
  split at h
  · rename_i p q h1 h2
    split at h
    · rename_i hz
      cases h
      rw [Bool.and_eq_true] at hz
      exact ⟨p, q, h1, h2, hz.1, hz.2, rfl⟩
    · cases h
  · cases h
theorem op_emp {X : Cx} {neg : Bool} (hu : X.A.units < cLine) : OpR X (compareOp (if neg = true then .NotEq else .Eq)) (fun x y H Q => ∃ a b, x = .ref a ∧ y = .ref b ∧ ((∃ xs ys, SqT X.K H a xs ∧ SqT X.K H b ys ∧ (xs = [] ∨ ys = []) ∧ Q (.bl (neg != decide (xs.length = ys.length))) H) ∨ ∃ xs ys, SqL X.K H a xs ∧ SqL X.K H b ys ∧ xs.length ≠ ys.length ∧ Q (.bl neg) H)) := by
  intro pins s σ H x y v u Q I rx ry h
  obtain ⟨a, b, rfl, rfl, h⟩ := h
  cases rx
  cases ry
  rcases h with ⟨xs, ys, qx, qy, hz, q⟩ | ⟨xs, ys, qx, qy, hz, q⟩
  · obtain ⟨its, r1, p1, _⟩ := I.tuple qx
    obtain ⟨jts, r2, p2, _⟩ := I.tuple qy
    have l1 := r1.length
    have l2 := r2.length
    have m0 : min its.toArray.size jts.toArray.size = 0 := by
      rw [List.size_toArray, List.size_toArray, ← l1, ← l2]
      rcases hz with rfl | rfl
      · simp
      · simp
    have em : ∀ j, j < its.toArray.size → j < jts.toArray.size → False := fun j j1 j2 => by omega
    have sz : (its.toArray.size == jts.toArray.size) = decide (xs.length = ys.length) := by
      rw [List.size_toArray, List.size_toArray, ← l1, ← l2]
      rfl
    cases neg
    · refine SeqAt.RcAt.tuples (e := fun _ => true) p1 p2 hu (fun j j1 j2 => (em j j1 j2).elim) X.prog X.w X.xe _ ?_
      rw [m0, sz]
      exact ⟨.bl _, H, I, rfl, by simpa using q⟩
    · refine SeqAt.RcNeAt.tuples (e := fun _ => true) p1 p2 hu (fun j j1 j2 => (em j j1 j2).elim) X.prog X.w X.xe _ ?_
      rw [m0, sz]
      exact ⟨.bl _, H, I, rfl, by simpa using q⟩
  · obtain ⟨its, r1, p1, _⟩ := I.list qx
    obtain ⟨jts, r2, p2, _⟩ := I.list qy
    have l1 := r1.length
    have l2 := r2.length
    have sz : (its.toArray.size != jts.toArray.size) = true := by
      rw [List.size_toArray, List.size_toArray, ← l1, ← l2]
      simpa using hz
    cases neg
    · exact SeqAt.RcAt.lists_lengths p1.isList p2.isList sz hu X.prog X.w X.xe _ ⟨.bl _, H, I, rfl, q⟩
    · exact SeqAt.RcNeAt.lists_lengths p1.isList p2.isList sz hu X.prog X.w X.xe _ ⟨.bl _, H, I, rfl, q⟩
theorem emp_run {neg : Bool} {x y : D} {b : Bool} {F : Hp} {as : List Addr} {μ : Sto} {H : Hp} {v u : V} {Q : VK} (hg : g.K = X.K) (hu : X.A.units < cLine) (e : eqEmp x y = some b) (sr : SR g F as μ H) (hx : VR g F H x v) (hy : VR g F H y u) (q : Q (.bl (neg != b)) H) : rcan X (compareOp (if neg = true then .NotEq else .Eq)) v u H Q := by
  unfold eqEmp at e
  split at e
  · cases e
    obtain ⟨a, vs, rfl, q1, r1⟩ := vr_tup sr hx
    obtain ⟨c, us, rfl, q2, r2⟩ := vr_tup sr hy
    cases Reps.nil_iff.mp r2
    refine oc (op_emp hu) ⟨a, c, rfl, rfl, .inl ⟨vs, [], hg ▸ q1, hg ▸ q2, .inr rfl, ?_⟩⟩
    rename_i ds
    have : ds.isEmpty = decide (vs.length = ([] : List V).length) := by
      rw [r1.length]
      cases ds <;> simp
    rw [← this]
    exact q
  · cases e
    obtain ⟨a, vs, rfl, q1, r1⟩ := vr_tup sr hx
    obtain ⟨c, us, rfl, q2, r2⟩ := vr_tup sr hy
    cases Reps.nil_iff.mp r1
    refine oc (op_emp hu) ⟨a, c, rfl, rfl, .inl ⟨[], us, hg ▸ q1, hg ▸ q2, .inl rfl, ?_⟩⟩
    rename_i es _
    have : es.isEmpty = decide (([] : List V).length = us.length) := by
      rw [r2.length]
      cases es <;> simp
    rw [← this]
    exact q
  · split at e
    · cases e
    · rename_i hz
      cases e
      obtain ⟨a, vs, rfl, q1, r1⟩ := vr_lst sr hx
      obtain ⟨c, us, rfl, q2, r2⟩ := vr_lst sr hy
      refine oc (op_emp hu) ⟨a, c, rfl, rfl, .inr ⟨vs, us, hg ▸ SqL.of q1, hg ▸ SqL.of q2, by rw [r1.length, r2.length]; exact hz, ?_⟩⟩
      simpa using q
  · cases e
theorem ok_eq (hg : g.K = X.K) (hu : X.A.units + 64 < cLine) : OpOk g X (compareOp .Eq) dEq := by
  intro x y s F as μ H v u Q e sr hx hy k
  unfold dEq at e
  split at e
  · rename_i s' t'
    cases e
    cases vr_str hx
    cases vr_str hy
    refine oc op_eq ⟨rfl, ?_⟩
    have q : decide (V.str s' = V.str t') = decide (s' = t') := by
      rw [decide_eq_decide]
      exact ⟨fun z => by injection z, fun z => by rw [z]⟩
    rw [q]
    exact k F as _ H .refl sr ra_bl
  split at e
  · rename_i b h
    cases e
    obtain ⟨p, q, h1, h2, h3, h4, rfl⟩ := pyEq_some h
    exact oc (op_eqD hu) ⟨p, q, hg ▸ toPy_vr sr h1 hx, hg ▸ toPy_vr sr h2 hy, h3, h4, k F as _ H .refl sr ra_bl⟩
  · obtain ⟨b, h, rfl⟩ := Option.map_eq_some_iff.mp e
    refine emp_run (neg := false) hg (by omega) h sr hx hy ?_
    have : (false != b) = b := by cases b <;> rfl
    rw [this]
    exact k F as _ H .refl sr ra_bl
theorem ok_ne (hg : g.K = X.K) (hu : X.A.units + 64 < cLine) : OpOk g X (compareOp .NotEq) dNe := by
  intro x y s F as μ H v u Q e sr hx hy k
  unfold dNe at e
  split at e
  · rename_i s' t'
    cases e
    cases vr_str hx
    cases vr_str hy
    refine oc op_ne ⟨rfl, ?_⟩
    have q : decide (V.str s' = V.str t') = decide (s' = t') := by
      rw [decide_eq_decide]
      exact ⟨fun z => by injection z, fun z => by rw [z]⟩
    rw [q]
    exact k F as _ H .refl sr ra_bl
  split at e
  · rename_i b h
    cases e
    obtain ⟨p, q, h1, h2, h3, h4, rfl⟩ := pyEq_some h
    exact oc (op_neD hu) ⟨p, q, hg ▸ toPy_vr sr h1 hx, hg ▸ toPy_vr sr h2 hy, h3, h4, k F as _ H .refl sr ra_bl⟩
  · obtain ⟨b, h, rfl⟩ := Option.map_eq_some_iff.mp e
    refine emp_run (neg := true) hg (by omega) h sr hx hy ?_
    have : (true != b) = !b := by cases b <;> rfl
    rw [this]
    exact k F as _ H .refl sr ra_bl
end
end Sz
set_option Elab.async false
set_option linter.all false
set_option maxRecDepth 100000
set_option maxHeartbeats 4000000
namespace Sz
open PySem PySem.Spec L2
def notStar : Expr → Bool
  | .Starred _ _ => false
  | _ => true
theorem starEach_cons {e : Expr} {es : List Expr} {env : PySem.Env} (h : notStar e = true) : starEach (e :: es) env = (false, eval e env) :: starEach es env := by
  cases e <;> first | rfl | (exact absurd (show false = true from h) Bool.false_ne_true)
theorem starEach_plain : ∀ {es : List Expr} {env : PySem.Env} {pos : Pos}, es.all notStar = true → (backTo pos (starEach es env)).any (·.1) = false
  | [], _, _, _ => rfl
  | e :: es, env, pos, h => by
    rw [List.all_cons, Bool.and_eq_true] at h
    rw [starEach_cons h.1]
    show (false || (backTo pos (starEach es env)).any (·.1)) = false
    rw [starEach_plain h.2]; rfl
def mArgs : List ME → MA
  | [] => fun _ μ => some (.ok [], μ)
  | m :: ms => fun ρ μ => andThen (m ρ μ) fun s μ1 => andThen (mArgs ms ρ μ1) fun ss μ2 => some (.ok (rt s :: ss), μ2)
section
variable {g : G} {X : Cx} {W : WX} {e : Expr} {es : List Expr} {m : ME} {ms : List ME} {pos : Pos}
theorem sa_nil : SA g X W [] (mArgs []) := by
  refine ⟨fun F as ρ μ σ H Q r μ' h sr er post => wA pa_nil ?_⟩
  cases h
  exact post F as [] H .refl sr .nil
theorem sa_cons (hn : notStar e = true) (h1 : SE g X W e m) (h2 : SA g X W es (mArgs ms)) : SA g X W (e :: es) (mArgs (m :: ms)) := by
  refine ⟨fun F as ρ μ σ H Q r μ' h sr er post => wA (pa_cons pe_wp pa_wp (starEach_cons hn)) ?_⟩
  refine h1.then_ (show andThen _ _ = some (r, μ') from h) sr er (fun x e => by subst e; exact post) fun s1 μ1 F1 as1 v1 H1 h3 x1 sr1 er1 ra1 => ?_
  obtain ⟨F1', x1', sr1', rs1⟩ := root_ok sr1 ra1
  refine h2.then_ h3 sr1' (er1.mono x1') (fun x e => by subst e; exact PErr.ext (x1.trans x1') post) fun ss μ2 F2 as2 vs H2 h4 x2 sr2 er2 rs2 => ?_
  cases h4
  exact post F2 as2 _ H2 ((x1.trans x1').trans x2) sr2 (.cons (rs1.mono x2) rs2)
end
def finL (ss : List S) (μ : Sto) : Option R := match toDs μ ss with
  | some (ds, μ2) => if ds.length ≤ sizeLine then some (.ok (.fr ds), μ2) else none
  | none => none
def finT (ss : List S) (μ : Sto) : Option R := match toDs μ ss with
  | some (ds, μ2) => if ds.length ≤ sizeLine then some (.ok (.val (.tup ds)), μ2) else none
  | none => none
def mList (ms : List ME) : ME := fun ρ μ => andThen (mArgs ms ρ μ) finL
def mTup (ms : List ME) : ME := fun ρ μ => andThen (mArgs ms ρ μ) finT
section
variable {g : G} {X : Cx} {W : WX} {e : Expr} {es : List Expr} {m : ME} {ms : List ME} {pos : Pos}
theorem se_lst (ha : SA g X W es (mArgs ms)) : SE g X W (.List es pos) (mList ms) := by
  refine ⟨fun F as ρ μ σ H Q r μ' h sr er post => wE (pe_lst pa_wp) ?_⟩
  refine ha.then_ (show andThen _ _ = some (r, μ') from h) sr er (fun x e => by subst e; exact post) fun ss μ1 F1 as1 vs H1 h1 x1 sr1 er1 rs1 => ?_
  unfold finL at h1
  split at h1
  · rename_i ds μ2 hd
    split at h1
    · rename_i hz
      cases h1
      obtain ⟨F2, x2, sr2, r2⟩ := toDs_rs sr1 rs1 hd
      refine ⟨by rw [r2.length]; exact hz, fun p hp => ?_⟩
      obtain ⟨sr3, f, n⟩ := sr2.loose (o := .lst vs) hp
      exact post F2 as1 _ _ (x1.trans x2) sr3 (ra_lst upd_same f n r2)
    · cases h1
  · cases h1
theorem se_tup {k : Nat} (ha : SA g X W es (mArgs ms)) : SE g X W (.Tuple es k pos) (mTup ms) := by
  refine ⟨fun F as ρ μ σ H Q r μ' h sr er post => wE (pe_tup pa_wp) ?_⟩
  refine ha.then_ (show andThen _ _ = some (r, μ') from h) sr er (fun x e => by subst e; exact post) fun ss μ1 F1 as1 vs H1 h1 x1 sr1 er1 rs1 => ?_
  unfold finT at h1
  split at h1
  · rename_i ds μ2 hd
    split at h1
    · rename_i hz
      cases h1
      obtain ⟨F2, x2, sr2, r2⟩ := toDs_rs sr1 rs1 hd
      refine ⟨by rw [r2.length]; exact hz, fun p hp => ?_⟩
      obtain ⟨sr3, x3, y3⟩ := sr2.frozen (o := .tup vs) hp
      refine post _ as1 _ _ ((x1.trans x2).trans x3) sr3 ?_
      show Rep g _ (.tup ds) _
      unfold Rep
      exact ⟨p, vs, rfl, SqT.of y3, r2.mono x3.1⟩
    · cases h1
  · cases h1
end
def CallOk (g : G) (X : Cx) (f : Value) (op : List D → Option S) : Prop :=
  ∀ (xs : List D) (s : S) (F : Hp) (as : List Addr) (μ : Sto) (H : Hp) (vs : List V) (Q : VK), op xs = some s → SR g F as μ H → VRs g F H xs vs →
    (∀ F' as' w H', Ext F as F' as' → SR g F' as' μ H' → RA g F' as' H' s w → Q w H') → ∀ (pins : List (Addr × Obj)) (st : Shared) (σ : L2.St) (us : List Value), Inv X pins σ H st → Vals vs us → wpAny (model X.prog X.w) X.A (call f us) (EP X pins σ Q) X.xe st
def finB (op : List D → Option S) (ss : List S) (μ : Sto) : Option R := match vws μ ss with
  | some xs => (match op xs with
    | some s => some (.ok s, μ)
    | none => none)
  | none => none
def mCallB (op : List D → Option S) (ms : List ME) : ME := fun ρ μ => andThen (mArgs ms ρ μ) (finB op)
theorem finB_some {op : List D → Option S} {ss : List S} {μ μ' : Sto} {r : Except Ex S} (h : finB op ss μ = some (r, μ')) : ∃ xs s, vws μ ss = some xs ∧ op xs = some s ∧ r = .ok s ∧ μ' = μ := by
  unfold finB at h
  split at h
  · rename_i xs h1
    split at h
    · rename_i s h2
      cases h
      exact ⟨xs, s, h1, h2, rfl, rfl⟩
    · cases h
  · cases h
section
variable {g : G} {X : Cx} {W : WX} {e : Expr} {es : List Expr} {ms : List ME} {pos p : Pos} {x : Str} {op : List D → Option S} {id T : String}
abbrev ccan (X : Cx) (f : Value) : List V → Hp → VK → Prop := fun vs H Q => ∀ (pins : List (Addr × Obj)) (st : Shared) (σ : L2.St) (us : List Value), Inv X pins σ H st → Vals vs us → wpAny (model X.prog X.w) X.A (call f us) (EP X pins σ Q) X.xe st
theorem call_can {f : Value} : CallR X f (ccan X f) := fun pins s σ H xs us Q I r h => h pins s σ us I r
theorem cc {f : Value} {r : List V → Hp → VK → Prop} (h : CallR X f r) {vs : List V} {H : Hp} {Q : VK} (q : r vs H Q) : ccan X f vs H Q := fun pins s σ us I rr => h pins s σ H vs us Q I rr q
theorem callB_ok {f : Value} (ho : CallOk g X f op) (ha : SA g X W es (mArgs ms)) {F : Hp} {as : List Addr} {ρ : En} {μ : Sto} {σ : L2.St} {H : Hp} {Q : VK} {r : Except Ex S} {μ' : Sto}
    (h : mCallB op ms ρ μ = some (r, μ')) (sr : SR g F as μ H) (er : ER g F as ρ σ) (post : PostE g W F as σ Q r μ') : tCB (ccan X f) (wpA X es) σ H Q := by
  refine ha.then_ (show andThen _ _ = some (r, μ') from h) sr er (fun x e => by subst e; exact post) fun ss μ1 F1 as1 vs H1 h1 x1 sr1 er1 rs1 => ?_
  obtain ⟨xs, s, e1, e2, e3, e4⟩ := finB_some h1
  subst e3 e4
  exact ho xs s F1 as1 μ' H1 vs Q e2 sr1 (views_rs sr1 rs1 e1) fun F' as' w H' e' r' q => post F' as' w H' (x1.trans e') r' q
theorem se_callB (ho : CallOk g X (.builtin id) op) (hg : Gl X x) (hm : X.mg x = none) (hv : bootBuiltins x = some (.builtin id)) (hn : x ≠ "__name__") (hdb : (x == ("__debug__" : Str)) = false) (hst : (e :: es).all notStar = true)
    (ha : SA g X W (e :: es) (mArgs ms)) : SE g X W (.Call (.Name x p) (e :: es) [] pos) (mCallB op ms) := by
  rw [List.all_cons, Bool.and_eq_true] at hst
  exact ⟨fun F as ρ μ σ H Q r μ' h sr er post => wE (pe_callB call_can hg hm hv pa_wp hn hdb (starEach_cons hst.1) (starEach_plain hst.2)) (callB_ok ho ha h sr er post)⟩
theorem se_callTy (ho : CallOk g X (.type T) op) (hg : Gl X x) (hm : X.mg x = none) (hv : bootBuiltins x = some (.type T)) (hn : x ≠ "__name__") (hdb : (x == ("__debug__" : Str)) = false) (hst : (e :: es).all notStar = true)
    (ha : SA g X W (e :: es) (mArgs ms)) : SE g X W (.Call (.Name x p) (e :: es) [] pos) (mCallB op ms) := by
  rw [List.all_cons, Bool.and_eq_true] at hst
  exact ⟨fun F as ρ μ σ H Q r μ' h sr er post => wE (pe_callTy call_can hg hm hv pa_wp hn hdb (starEach_cons hst.1) (starEach_plain hst.2)) (callB_ok ho ha h sr er post)⟩
theorem vrs1 {F H : Hp} {d : D} {vs : List V} (h : VRs g F H [d] vs) : ∃ v, vs = [v] ∧ VR g F H d v := by
  cases h with
  | cons h t => cases t; exact ⟨_, rfl, h⟩
theorem vrs2 {F H : Hp} {d d' : D} {vs : List V} (h : VRs g F H [d, d'] vs) : ∃ v u, vs = [v, u] ∧ VR g F H d v ∧ VR g F H d' u := by
  cases h with
  | cons h t => cases t with
    | cons h' t => cases t; exact ⟨_, _, rfl, h, h'⟩
end
def bLen : List D → Option S
  | [.str x] => if x.length ≤ sizeLine then some (.val (.int x.length)) else none
  | [.lst ds] => some (.val (.int ds.length))
  | [.tup ds] => some (.val (.int ds.length))
  | [.scr ns] => some (.val (.int ns.length))
  | _ => none
def bMin : List D → Option S
  | [.int i, .int j] => some (.val (.int (if j < i then j else i)))
  | _ => none
def bInt : List D → Option S
  | [.int i] => some (.val (.int i))
  | [.bl b] => some (.val (.int (if b then 1 else 0)))
  | [.str x] => match PySem.intText? x with
    | some n => if x.length ≤ 640 then some (.val (.int n)) else none
    | none => none
  | _ => none
section
variable {g : G} {X : Cx}
theorem co_len (hg : g.K = X.K) : CallOk g X (.builtin "len") bLen := by
  intro xs s F as μ H vs Q e sr hx k
  unfold bLen at e
  split at e
  · obtain ⟨v, rfl, h⟩ := vrs1 hx
    cases vr_str h
    split at e
    · rename_i hz
      cases e
      exact cc call_len ⟨_, _, rfl, ⟨hz, rfl⟩, k F as _ H .refl sr ra_int⟩
    · cases e
  · cases e
    obtain ⟨v, rfl, h⟩ := vrs1 hx
    obtain ⟨a, us, rfl, h1, h2⟩ := vr_lst sr h
    refine cc call_len ⟨_, us.length, rfl, .inl ⟨us, SqL.of h1, rfl⟩, ?_⟩
    rw [h2.length]
    exact k F as _ H .refl sr ra_int
  · cases e
    obtain ⟨v, rfl, h⟩ := vrs1 hx
    obtain ⟨a, us, rfl, h1, h2⟩ := vr_tup sr h
    refine cc call_len ⟨_, us.length, rfl, .inr ⟨us, hg ▸ h1, rfl⟩, ?_⟩
    rw [h2.length]
    exact k F as _ H .refl sr ra_int
  · cases e
    obtain ⟨v, rfl, h⟩ := vrs1 hx
    obtain ⟨a, rfl, h1⟩ := vr_scr sr h
    refine cc call_len ⟨_, _, rfl, .inl ⟨_, hg ▸ h1, rfl⟩, ?_⟩
    rw [List.length_map]
    exact k F as _ H .refl sr ra_int
  · cases e
theorem co_min (hc : X.calm = true) : CallOk g X (.builtin "min") bMin := by
  intro xs s F as μ H vs Q e sr hx k
  unfold bMin at e
  split at e
  · cases e
    obtain ⟨v, u, rfl, h, h'⟩ := vrs2 hx
    cases vr_int h
    cases vr_int h'
    exact cc (call_min2 hc) ⟨_, _, rfl, k F as _ H .refl sr ra_int⟩
  · cases e
theorem co_int : CallOk g X (.type "int") bInt := by
  intro xs s F as μ H vs Q e sr hx k
  unfold bInt at e
  split at e
  · cases e
    obtain ⟨v, rfl, h⟩ := vrs1 hx
    cases vr_int h
    exact cc call_int1 (.inl ⟨_, rfl, k F as _ H .refl sr ra_int⟩)
  · cases e
    obtain ⟨v, rfl, h⟩ := vrs1 hx
    cases vr_bl h
    exact cc call_int1 (.inr ⟨_, rfl, k F as _ H .refl sr ra_int⟩)
  · obtain ⟨v, rfl, h⟩ := vrs1 hx
    cases vr_str h
    split at e
    · rename_i n hn
      split at e
      · rename_i hz
        cases e
        exact cc call_int_str ⟨_, _, rfl, hn, hz, k F as _ H .refl sr ra_int⟩
      · cases e
    · cases e
  · cases e
end
/-- of two built-in types -/
def tyIs (a b : String) : Option Bool :=
  if tyNames.contains a && ["bool", "int", "str", "list", "tuple", "dict"].contains b then some (a == b || (a == "bool" && b == "int")) else none
theorem tyIs_kit {K : PySem.W.Frag} {a b : String} {r : Bool} (h : tyIs a b = some r) : PySem.W.kitOne K (.type a) (.type b) = some r := by
  refine kit_ty ?_
  unfold tyIs at h
  split at h
  · rename_i hz
    rw [Bool.and_eq_true] at hz
    have h1 := hz.1
    have h2 := hz.2
    simp only [tyNames, List.contains_cons, List.contains_nil, Bool.or_false, Bool.or_eq_true, beq_iff_eq] at h1 h2
    rcases h1 with rfl | rfl | rfl | rfl | rfl | rfl | rfl <;> rcases h2 with rfl | rfl | rfl | rfl | rfl | rfl <;> (cases h; decide +kernel)
  · cases h
/-- what the head must tell of the classes: n plain ones, m in all -/
structure KitF (g : G) (n m : Nat) (sub : Nat → Nat → Bool) : Prop where
  cls : ∀ c, c < n → Cls g.K (g.cad c)
  ha : ∀ c, c < n → PySem.W.findIn g.K (.ref (g.cad c)) "__class__" = some (some (.builtin "object.__class__"))
  hn : 0 < n → PySem.W.specialIn g.K (.builtin "object.__class__") "__get__" = some (some (.builtin "getset_descriptor.__get__"))
  htk : 0 < n → PySem.W.takesIn g.K (.builtin "object.__class__") = some true
  hm : ∀ c, c < n → PySem.W.mroIn g.K (g.cad c) (.type "object") = some true
  ty : ∀ c T, c < m → tyNames.contains T = true → PySem.W.kitOne g.K (.type T) (.ref (g.cad c)) = some false
  own : ∀ c c', c < n → c' < m → PySem.W.kitOne g.K (.ref (g.cad c)) (.ref (g.cad c')) = some (sub c c')
  bl : ∀ c T, c < n → ["bool", "int", "str", "list", "tuple", "dict"].contains T = true → PySem.W.kitOne g.K (.ref (g.cad c)) (.type T) = some false
def dTy : D → Option String
  | .non => some "NoneType"
  | .bl _ => some "bool"
  | .int _ => some "int"
  | .str _ => some "str"
  | .tup _ => some "tuple"
  | .lst _ => some "list"
  | .scr _ => some "list"
  | .dic _ _ => some "dict"
  | _ => none
def isOne (n m : Nat) (sub : Nat → Nat → Bool) (x c : D) : Option Bool := match x, c with
  | .obj i _, .cls j => if i < n ∧ j < m then some (sub i j) else none
  | .obj i _, .ty T => if i < n ∧ ["bool", "int", "str", "list", "tuple", "dict"].contains T = true then some false else none
  | x, .cls j => match dTy x with
    | some _ => if j < m then some false else none
    | none => none
  | x, .ty T => match dTy x with
    | some a => tyIs a T
    | none => none
  | _, _ => none
def bIsi (n m : Nat) (sub : Nat → Nat → Bool) : List D → Option S
  | [x, c] => (isOne n m sub x c).map fun b => .val (.bl b)
  | _ => none
section
variable {g : G} {X : Cx} {n m : Nat} {sub : Nat → Nat → Bool}
theorem dTy_in {x : D} {a : String} (h : dTy x = some a) : tyNames.contains a = true := by
  cases x <;> first | (cases h; decide) | (cases h)
theorem dTy_ty {F H : Hp} {as : List Addr} {μ : Sto} {x : D} {a : String} {v : V} (hg : g.K = X.K) (sr : SR g F as μ H) (h : dTy x = some a) (r : VR g F H x v) : TyX X.K H v (.type a) := by
  cases x with
  | non => cases h; cases vr_non r; exact .base .non
  | bl b => cases h; cases vr_bl r; exact .base (.bl b)
  | int i => cases h; cases vr_int r; exact .base (.int i)
  | str z => cases h; cases vr_str r; exact .base (.str z)
  | lst ds => cases h; obtain ⟨a, vs, rfl, h1, _⟩ := vr_lst sr r; exact .base (.lst h1)
  | tup ds =>
    cases h
    obtain ⟨a, vs, rfl, h1, _⟩ := vr_tup sr r
    rcases h1 with (h1 | ⟨o, h1⟩) | ⟨o, its, k, h1, h2, _⟩
    · exact .base (.tup h1)
    · exact .fTuple h1
    · exact .kTuple (hg ▸ h1) h2
  | scr ns =>
    cases h
    obtain ⟨a, rfl, h1⟩ := vr_scr sr r
    rcases h1 with (h1 | ⟨o, h1⟩) | ⟨o, its, k, h1, h2, _⟩
    · exact .base (.lst h1)
    · exact .base (.frz h1)
    · exact .kList (hg ▸ h1) h2
  | dic ks ds =>
    cases h
    rcases r with ⟨_, _, _, e, _⟩ | r
    · cases e
    · unfold Rep at r
      obtain ⟨a, o, vs, rfl, e1, _⟩ := r
      exact .fDict (sr.sub _ _ e1)
  | _ => cases h
theorem vr_obj {F H : Hp} {as : List Addr} {μ : Sto} {c : Nat} {fs : List D} {v : V} (sr : SR g F as μ H) (h : VR g F H (.obj c fs) v) : ∃ a dx vs, v = .ref a ∧ H a = some (.ins (g.cad c) dx ((g.fl c).zip vs)) ∧ vs.length = (g.fl c).length ∧ Reps g F fs vs := by
  rcases h with ⟨_, _, _, e, _⟩ | h
  · cases e
  · unfold Rep at h
    obtain ⟨a, dx, vs, e1, e2, e3, e4⟩ := h
    exact ⟨a, dx, vs, e1, sr.sub _ _ e2, e3, e4⟩
theorem vr_cls {F H : Hp} {c : Nat} {v : V} (h : VR g F H (.cls c) v) : v = .ref (g.cad c) := by
  rcases h with ⟨_, _, _, e, _⟩ | h
  · cases e
  · unfold Rep at h; exact h
theorem vr_ty {F H : Hp} {T : String} {v : V} (h : VR g F H (.ty T) v) : v = .ty T := by
  rcases h with ⟨_, _, _, e, _⟩ | h
  · cases e
  · unfold Rep at h; exact h
theorem co_isi (hg : g.K = X.K) (kf : KitF g n m sub) : CallOk g X (.builtin "isinstance") (bIsi n m sub) := by
  intro xs s F as μ H vs Q e sr hx k
  unfold bIsi at e
  split at e
  · rename_i x c
    obtain ⟨b, h, rfl⟩ := Option.map_eq_some_iff.mp e
    obtain ⟨v, u, rfl, h1, h2⟩ := vrs2 hx
    have fin : Q (.bl b) H := k F as _ H .refl sr ra_bl
    unfold isOne at h
    split at h
    · rename_i i fs j
      split at h
      · rename_i hz
        cases h
        obtain ⟨a, dx, us, rfl, e1, _, _⟩ := vr_obj sr h1
        cases vr_cls h2
        refine cc call_isi ⟨_, _, _, _, _, rfl, .own _, .base (.ins e1 ?_ ?_ ?_ ?_ ?_), ?_, fin⟩
        · exact hg ▸ kf.cls i hz.1
        · exact hg ▸ kf.ha i hz.1
        · exact hg ▸ kf.hn (Nat.lt_of_le_of_lt (Nat.zero_le _) hz.1)
        · exact hg ▸ kf.htk (Nat.lt_of_le_of_lt (Nat.zero_le _) hz.1)
        · exact hg ▸ kf.hm i hz.1
        · exact hg ▸ kf.own i j hz.1 hz.2
      · cases h
    · rename_i i fs T
      split at h
      · rename_i hz
        cases h
        obtain ⟨a, dx, us, rfl, e1, _, _⟩ := vr_obj sr h1
        cases vr_ty h2
        refine cc call_isi ⟨_, _, _, _, _, rfl, .ty _, .base (.ins e1 ?_ ?_ ?_ ?_ ?_), ?_, fin⟩
        · exact hg ▸ kf.cls i hz.1
        · exact hg ▸ kf.ha i hz.1
        · exact hg ▸ kf.hn (Nat.lt_of_le_of_lt (Nat.zero_le _) hz.1)
        · exact hg ▸ kf.htk (Nat.lt_of_le_of_lt (Nat.zero_le _) hz.1)
        · exact hg ▸ kf.hm i hz.1
        · exact hg ▸ kf.bl i T hz.1 hz.2
      · cases h
    · rename_i j _
      split at h
      · rename_i a ha
        split at h
        · rename_i hz
          cases h
          cases vr_cls h2
          exact cc call_isi ⟨_, _, _, _, _, rfl, .own _, dTy_ty hg sr ha h1, hg ▸ kf.ty j a hz (dTy_in ha), fin⟩
        · cases h
      · cases h
    · split at h
      · rename_i a ha
        cases vr_ty h2
        exact cc call_isi ⟨_, _, _, _, _, rfl, .ty _, dTy_ty hg sr ha h1, tyIs_kit h, fin⟩
      · cases h
    · cases h
  · cases e
end
def dIx : D → D → Option S
  | .lst ds, .int i => (atI ds i).map .val
  | .tup ds, .int i => (atI ds i).map .val
  | .scr ns, .int i => (atI ns i).map fun n => .val (.int n)
  | .str z, .int i => if z.length ≤ sizeLine then (atI z.cps.toList i).map fun c => .val (.str ⟨#[c]⟩) else none
  | _, _ => none
def notSlice : Expr → Bool
  | .Slice _ _ _ _ => false
  | _ => true
theorem plainIx {e : Expr} (h : notSlice e = true) : PlainIx e := by
  cases e <;> first | (exact fun _ _ => rfl) | (exact absurd (show false = true from h) Bool.false_ne_true)
section
variable {g : G} {X : Cx} {W : WX} {a b : Expr} {ma mb : ME} {pos : Pos}
theorem atI_reps {F : Hp} {ds : List D} {vs : List V} {i : Int} {d : D} (r : Reps g F ds vs) (h : atI ds i = some d) : ∃ v, atI vs i = some v ∧ Rep g F d v := by
  unfold atI at h ⊢
  obtain ⟨j, h1, h2⟩ := Option.bind_eq_some_iff.mp h
  obtain ⟨v, h3, h4⟩ := r.get h2
  refine ⟨v, ?_, h4⟩
  rw [r.length, h1]
  exact h3
theorem se_ix (hg : g.K = X.K) (ha : SE g X W a ma) (hb : SE g X W b mb) (hs : notSlice b = true) : SE g X W (.Subscript a b pos) (mOp2 dIx ma mb) := by
  refine ⟨fun F as ρ μ σ H Q r μ' h sr er post => wE (pe_ix ix_seq pe_wp pe_wp (plainIx hs)) ?_⟩
  refine ha.then_ (show andThen _ _ = some (r, μ') from h) sr er (fun x e => by subst e; exact post) fun s1 μ1 F1 as1 v1 H1 h1 x1 sr1 er1 ra1 => ?_
  obtain ⟨F1', x1', sr1', rs1⟩ := root_ok sr1 ra1
  refine hb.then_ h1 sr1' (er1.mono x1') (fun x e => by subst e; exact PErr.ext (x1.trans x1') post) fun s2 μ2 F2 as2 v2 H2 h2 x2 sr2 er2 ra2 => ?_
  obtain ⟨x, y, s, e1, e2, e3, e4, e5⟩ := fin2_some h2
  subst e4 e5
  have hx := view_rs sr2 (rs1.mono x2) e1
  have hy := view_ra sr2 ra2 e2
  have fin : ∀ w, RA g F2 as2 H2 s w → Q w H2 := fun w q => post F2 as2 w H2 ((x1.trans x1').trans x2) sr2 q
  unfold dIx at e3
  split at e3
  · obtain ⟨d, e6, rfl⟩ := Option.map_eq_some_iff.mp e3
    obtain ⟨p, vs, rfl, h3, h4⟩ := vr_lst sr2 hx
    cases vr_int hy
    obtain ⟨w, h5, h6⟩ := atI_reps h4 e6
    exact .inl ⟨p, vs, _, w, rfl, rfl, SqL.of h3, h5, fin w h6⟩
  · obtain ⟨d, e6, rfl⟩ := Option.map_eq_some_iff.mp e3
    obtain ⟨p, vs, rfl, h3, h4⟩ := vr_tup sr2 hx
    cases vr_int hy
    obtain ⟨w, h5, h6⟩ := atI_reps h4 e6
    exact .inr (.inl ⟨p, vs, _, w, rfl, rfl, hg ▸ h3, h5, fin w h6⟩)
  · obtain ⟨d, e6, rfl⟩ := Option.map_eq_some_iff.mp e3
    obtain ⟨p, rfl, h3⟩ := vr_scr sr2 hx
    cases vr_int hy
    refine .inl ⟨p, _, _, .int d, rfl, rfl, hg ▸ h3, ?_, fin _ ra_int⟩
    unfold atI at e6 ⊢
    obtain ⟨j, h5, h6⟩ := Option.bind_eq_some_iff.mp e6
    rw [List.length_map, h5]
    show (List.map V.int _)[j]? = _
    rw [List.getElem?_map, h6]
    rfl
  · split at e3
    · rename_i hz
      obtain ⟨d, e6, rfl⟩ := Option.map_eq_some_iff.mp e3
      cases vr_str hx
      cases vr_int hy
      exact .inr (.inr ⟨_, _, d, rfl, rfl, hz, e6, fin _ ra_str⟩)
    · cases e3
  · cases e3
end
def notCall : Expr → Bool
  | .Call _ [] [] _ => false
  | _ => true
theorem attrBase {e : Expr} {f : Str} {env : PySem.Env} (h : notCall e = true) : attributeBase e f env (eval e env) = eval e env := by
  cases e with
  | Call f es ks p =>
    cases es with
    | nil =>
      cases ks with
      | nil => exact absurd (show false = true from h) Bool.false_ne_true
      | cons k ks => cases f <;> rfl
    | cons a es => cases f <;> rfl
  | _ => rfl
/-- the fields' places: of class c the name f is the k-th -/
def fldIx (fls : List (List Str)) (c : Nat) (f : Str) : Option Nat := match fls[c]? with
  | some l => l.idxOf? f
  | none => none
def insGet (f : Str) : List (Str × D) → Option D := List.lookup f
def finA (fls : List (List Str)) (f : Str) (s : S) (μ : Sto) : Option R := match s with
  | .val (.obj c fs) => (match fldIx fls c f with
    | some k => (match fs[k]? with
      | some d => some (.ok (.val d), μ)
      | none => none)
    | none => none)
  | .cell k => (match μ[k]? with
    | some (.ins c fs) => (match insGet f fs with
      | some d => if c < fls.length then some (.ok (.val d), μ) else none
      | none => none)
    | _ => none)
  | _ => none
def mAttr (fls : List (List Str)) (f : Str) (a : ME) : ME := fun ρ μ => andThen (a ρ μ) (finA fls f)
/-- the classes' fields as the head has them -/
structure FldF (g : G) (fls : List (List Str)) : Prop where
  fl : ∀ c l, fls[c]? = some l → g.fl c = l
  cls : ∀ c, c < fls.length → Cls g.K (g.cad c)
  no : ∀ c l f, fls[c]? = some l → f ∈ l → NoAttr g.K (g.cad c) f
theorem idxOf_lookup {l : List Str} {vs : List V} {f : Str} {k : Nat} {v : V} (h : l.idxOf? f = some k) (hv : vs[k]? = some v) : (l.zip vs).lookup f = some v := by
  induction l generalizing vs k with
  | nil => simp at h
  | cons x l ih =>
    rw [List.idxOf?_cons] at h
    cases vs with
    | nil => simp at hv
    | cons w vs =>
      by_cases e : x = f
      · subst e
        simp only [beq_self_eq_true, if_true, Option.some.injEq] at h
        subst h
        simp only [List.getElem?_cons_zero, Option.some.injEq] at hv
        subst hv
        simp [List.lookup]
      · have e1 : (x == f) = false := beq_eq_false_iff_ne.mpr e
        rw [e1] at h
        simp only [Bool.false_eq_true, if_false, Option.map_eq_some_iff] at h
        obtain ⟨j, h1, rfl⟩ := h
        rw [List.getElem?_cons_succ] at hv
        have e2 : (f == x) = false := beq_eq_false_iff_ne.mpr (fun z => e z.symm)
        show List.lookup f ((x, w) :: l.zip vs) = some v
        simp only [List.lookup, e2]
        exact ih h1 hv
theorem lookup_reps {g : G} {F : Hp} {f : Str} {d : D} : ∀ {fs : List (Str × D)} {vs : List V}, Reps g F (fs.map (·.2)) vs → fs.lookup f = some d → ∃ v, ((fs.map (·.1)).zip vs).lookup f = some v ∧ Rep g F d v
  | [], _, _, h => by cases h
  | (x, y) :: fs, vs, r, h => by
    obtain ⟨v, r', rfl, h1, h2⟩ := Reps.cons_iff.mp r
    simp only [List.map_cons, List.zip_cons_cons]
    by_cases e : f = x
    · subst e
      simp only [List.lookup, beq_self_eq_true, Option.some.injEq] at h ⊢
      subst h
      exact ⟨v, rfl, h1⟩
    · have e1 : (f == x) = false := beq_eq_false_iff_ne.mpr e
      simp only [List.lookup, e1] at h ⊢
      exact lookup_reps h2 h
section
variable {g : G} {X : Cx} {W : WX} {a : Expr} {ma : ME} {pos : Pos} {f : Str} {fls : List (List Str)}
theorem se_attr (hg : g.K = X.K) (ff : FldF g fls) (hno : ∀ c, c < fls.length → NoAttr g.K (g.cad c) f) (ha : SE g X W a ma) (hs : notCall a = true) : SE g X W (.Attribute a f pos) (mAttr fls f ma) := by
  refine ⟨fun F as ρ μ σ H Q r μ' h sr er post => wE (pe_fld pe_wp (attrBase hs)) ?_⟩
  refine ha.then_ (show andThen _ _ = some (r, μ') from h) sr er (fun x e => by subst e; exact post) fun s1 μ1 F1 as1 v1 H1 h1 x1 sr1 er1 ra1 => ?_
  unfold finA at h1
  split at h1
  · rename_i c fs
    split at h1
    · rename_i k hk
      split at h1
      · rename_i d hd
        cases h1
        have r1 : Rep g F1 (.obj c fs) v1 := ra1
        obtain ⟨p, dx, vs, rfl, h2, h3, h4⟩ := vr_obj sr1 (.inr r1)
        obtain ⟨w, h5, h6⟩ := h4.get hd
        unfold fldIx at hk
        split at hk
        · rename_i l hl
          have hc : c < fls.length := (List.getElem?_eq_some_iff.mp hl).1
          rw [ff.fl c l hl] at h2
          refine ⟨p, _, dx, _, w, rfl, h2, hg ▸ ff.cls c hc, hg ▸ hno c hc, idxOf_lookup hk h5, post F1 as1 w H1 x1 sr1 h6⟩
        · cases hk
      · cases h1
    · cases h1
  · rename_i k
    split at h1
    · rename_i c fs hc
      split at h1
      · rename_i d hd
        split at h1
        · rename_i hlt
          cases h1
          obtain ⟨p, h2, rfl⟩ := (show ∃ p, as1[k]? = some p ∧ v1 = .ref p from ra1)
          obtain ⟨_, dx, vs, h3, h4, h5⟩ := sr1.cells k p _ h2 hc
          obtain ⟨w, h6, h7⟩ := lookup_reps h5 hd
          exact ⟨p, _, dx, _, w, rfl, h3, hg ▸ ff.cls c hlt, hg ▸ hno c hlt, h6, post F1 as1 w H1 x1 sr1 h7⟩
        · cases h1
      · cases h1
    · cases h1
  · cases h1
end
end Sz
set_option Elab.async false
set_option linter.all false
set_option maxRecDepth 100000
set_option maxHeartbeats 4000000
namespace Sz
open PySem PySem.Spec L2
def kwNames : List Keyword → Option (List Str)
  | [] => some []
  | ⟨some n, _, _⟩ :: r => (kwNames r).map (n :: ·)
  | _ => none
theorem kw_all {env : PySem.Env} {pos : Pos} : ∀ {kws : List Keyword} {ks : List Str}, kwNames kws = some ks →
    (backToKw pos (keywordEach kws env)).all (·.1.isSome) = true ∧ (backToKw pos (keywordEach kws env)).filterMap (·.1) = ks ∧ (backToKw pos (keywordEach kws env)).any (·.1.isNone) = false ∧ kws.length = ks.length
  | [], ks, h => by cases h; exact ⟨rfl, rfl, rfl, rfl⟩
  | ⟨none, _, _⟩ :: r, ks, h => by cases h
  | ⟨some n, v, p⟩ :: r, ks, h => by
    unfold kwNames at h
    obtain ⟨ks', h1, rfl⟩ := Option.map_eq_some_iff.mp h
    obtain ⟨a, b, c, d⟩ := kw_all (env := env) (pos := pos) h1
    refine ⟨?_, ?_, ?_, by rw [List.length_cons, List.length_cons, d]⟩
    · show (true && (backToKw pos (keywordEach r env)).all (·.1.isSome)) = true
      rw [a]; rfl
    · show n :: (backToKw pos (keywordEach r env)).filterMap (·.1) = n :: ks'
      rw [b]
    · show (false || (backToKw pos (keywordEach r env)).any (·.1.isNone)) = false
      rw [c]; rfl
section
variable {g : G} {X : Cx} {W : WX} {e : Expr} {m : ME} {ms : List ME} {kws : List Keyword} {nm : Option Str} {kpos : Pos}
theorem sk_nil : SK g X W [] (mArgs []) := by
  refine ⟨fun F as ρ μ σ H Q r μ' h sr er post => wK pk_nil ?_⟩
  cases h
  exact post F as [] H .refl sr .nil
theorem sk_cons (h1 : SE g X W e m) (h2 : SK g X W kws (mArgs ms)) : SK g X W (⟨nm, e, kpos⟩ :: kws) (mArgs (m :: ms)) := by
  refine ⟨fun F as ρ μ σ H Q r μ' h sr er post => wK (pk_cons pe_wp pk_wp) ?_⟩
  refine h1.then_ (show andThen _ _ = some (r, μ') from h) sr er (fun x e => by subst e; exact post) fun s1 μ1 F1 as1 v1 H1 h3 x1 sr1 er1 ra1 => ?_
  obtain ⟨F1', x1', sr1', rs1⟩ := root_ok sr1 ra1
  refine h2.then_ h3 sr1' (er1.mono x1') (fun x e => by subst e; exact PErr.ext (x1.trans x1') post) fun ss μ2 F2 as2 vs H2 h4 x2 sr2 er2 rs2 => ?_
  cases h4
  exact post F2 as2 _ H2 ((x1.trans x1').trans x2) sr2 (.cons (rs1.mono x2) rs2)
end
/-- the bound values in the parameters' order: positional, by name, defaults -/
def bindG {α : Type} (ks : List Str) (us ws dfl : List α) (np : Nat) : List Str → Nat → Option (List α)
  | [], _ => some []
  | p :: ps, i => match (match us[i]? with
      | some x => some x
      | none => match ks.idxOf? p with
        | some j => ws[j]?
        | none => dfl[i + dfl.length - np]?), bindG ks us ws dfl np ps (i + 1) with
    | some x, some r => some (x :: r)
    | _, _ => none
theorem Paired.len {α β : Type} {R : α → β → Prop} {xs : List α} {ys : List β} (h : Paired R xs ys) : xs.length = ys.length := Paired.length h
theorem paired_get {α β : Type} {R : α → β → Prop} : ∀ {xs : List α} {ys : List β} {i : Nat} {x : α}, Paired R xs ys → xs[i]? = some x → ∃ y, ys[i]? = some y ∧ R x y
  | _, _, _, _, .nil, e => by simp at e
  | _, _, 0, _, .cons r _, e => by simp at e; subst e; exact ⟨_, rfl, r⟩
  | _, _, i + 1, x, .cons _ t, e => by
    obtain ⟨u, h1, h2⟩ := paired_get (i := i) (x := x) t (by simpa using e)
    exact ⟨u, by simpa using h1, h2⟩
theorem bindG_ex {α β : Type} {R : α → β → Prop} {ks : List Str} {us ws dfl : List α} {us' ws' dfl' : List β} {np : Nat} (hu : Paired R us us') (hw : Paired R ws ws') (hd : Paired R dfl dfl') :
    ∀ {ps : List Str} {i : Nat} {b : List α}, bindG ks us ws dfl np ps i = some b → ∃ b', bindG ks us' ws' dfl' np ps i = some b' ∧ Paired R b b'
  | [], i, b, h => by
    cases h
    exact ⟨[], rfl, .nil⟩
  | p :: ps, i, b, h => by
    unfold bindG at h
    split at h
    · rename_i x r h1 h2
      cases h
      obtain ⟨b', e1, e2⟩ := bindG_ex hu hw hd h2
      have key : ∃ x', (match us'[i]? with
          | some x => some x
          | none => match ks.idxOf? p with
            | some j => ws'[j]?
            | none => dfl'[i + dfl'.length - np]?) = some x' ∧ R x x' := by
        cases q : us[i]? with
        | some y =>
          rw [q] at h1
          cases h1
          obtain ⟨y', q', r⟩ := paired_get hu q
          exact ⟨y', by rw [q'], r⟩
        | none =>
          have q' : us'[i]? = none := by
            rw [List.getElem?_eq_none_iff] at q ⊢
            rw [← Paired.length hu]; exact q
          rw [q] at h1
          rw [q']
          simp only at h1 ⊢
          cases z : ks.idxOf? p with
          | some j =>
            rw [z] at h1
            simp only at h1 ⊢
            exact paired_get hw h1
          | none =>
            rw [z] at h1
            simp only at h1 ⊢
            rw [← Paired.length hd]
            exact paired_get hd h1
      obtain ⟨x', k1, k2⟩ := key
      refine ⟨x' :: b', ?_, .cons k2 e2⟩
      unfold bindG
      rw [k1, e1]
    · cases h
theorem bindG_rel {α β : Type} {R : α → β → Prop} {ks : List Str} {us ws dfl : List α} {us' ws' dfl' : List β} {np : Nat} (hu : Paired R us us') (hw : Paired R ws ws') (hd : Paired R dfl dfl')
    {ps : List Str} {i : Nat} {b : List α} {b' : List β} (h : bindG ks us ws dfl np ps i = some b) (h' : bindG ks us' ws' dfl' np ps i = some b') : Paired R b b' := by
  obtain ⟨c, e1, e2⟩ := bindG_ex hu hw hd h
  rw [h'] at e1
  cases e1
  exact e2
/-- how a def's call of that shape binds -/
structure Bnd (K : PySem.W.Frag) (fd : FuncData) (ps : List Str) (n : Nat) (ks : List Str) (dvs : List V) : Prop where
  to : ∃ ds, Vals dvs ds ∧ ∀ (s : Shared) (us ws : List Value), K.In s.heap → us.length = n → ws.length = ks.length →
    ∃ b, bindG ks us ws ds ps.length ps 0 = some b ∧ BindsTo s fd ⟨us, ks.zip ws⟩ (ps.zip b)
theorem bindG_len {α : Type} {ks : List Str} {us ws dfl : List α} {np : Nat} : ∀ {ps : List Str} {i : Nat} {b : List α}, bindG ks us ws dfl np ps i = some b → b.length = ps.length
  | [], _, _, h => by cases h; rfl
  | p :: ps, i, b, h => by
    unfold bindG at h
    split at h
    · rename_i x r h1 h2
      cases h
      rw [List.length_cons, List.length_cons, bindG_len h2]
    · cases h
/-- a def's promise; gb: only where no repr is under way -/
structure FnG (gb : Bool) (P : Program) (w : World) (K : PySem.W.Frag) (mg : Str → Option Value) (base : Heap) (cx : CXT) (k : Nat) (f : Addr) (fd : FuncData) (ps : List Str) (sp : Sp) : Prop where
  wide : ∀ vs H Q E, sp vs H Q E → vs.length = ps.length
  go : ∀ (A : Around) (outer : List Env) (s : Shared) (H : Hp) (args : Args) (us : List Value) (vs : List V) (Q : VK) (E : XK), Room k A → (gb = true → A.guards = some []) → Env0 P w K mg base A outer s H → BindsTo s fd args (ps.zip us) → Vals vs us → sp vs H Q E →
    codeAny (model P w) A (.call (.ref f) args) (CR cx outer P w H s Q E) s
def leB (a b : Bool) : Bool := !a || b
theorem leB_ok {a b : Bool} (h : leB a b = true) (e : a = true) : b = true := by
  subst e
  exact h
section
variable {a b : Bool} {P : Program} {w : World} {K : PySem.W.Frag} {mg : Str → Option Value} {base : Heap} {cx : CXT} {j k : Nat} {f : Addr} {fd : FuncData} {ps : List Str} {sp : Sp}
theorem FnG.at_most (F : FnG a P w K mg base cx j f fd ps sp) (h : j ≤ k) : FnG a P w K mg base cx k f fd ps sp :=
  ⟨F.wide, fun A outer s H args us vs Q E room gd e0 bd rv ask => F.go A outer s H args us vs Q E (room.mono h) gd e0 bd rv ask⟩
theorem FnG.gd (F : FnG a P w K mg base cx k f fd ps sp) (h : leB a b = true) : FnG b P w K mg base cx k f fd ps sp :=
  ⟨F.wide, fun A outer s H args us vs Q E room gd e0 bd rv ask => F.go A outer s H args us vs Q E room (fun e => gd (leB_ok h e)) e0 bd rv ask⟩
end
theorem make_guards {A : Around} {C : Addr} {us : List Value} {kw : List (Str × Value)} : (A.under (.builtin "type.__call__" ⟨.ref C :: us, kw⟩)).guards = A.guards := by
  have e : (Code.builtin "type.__call__" ⟨.ref C :: us, kw⟩).isGuard = false := by
    show guardIds.contains "type.__call__" = false
    decide +kernel
  have z : (Code.builtin "type.__call__" ⟨.ref C :: us, kw⟩).guards = [] := by
    unfold Code.guards
    rw [e]
    rfl
  show pushGuards (Code.builtin "type.__call__" ⟨.ref C :: us, kw⟩).guards A.guards = A.guards
  rw [z]
  cases A.guards <;> rfl
def PostC (g : G) (F : Hp) (as : List Addr) (Q : VK) (E : XK) : Except Ex S → Sto → Prop
  | .ok s, μ' => ∀ F' as' v H', Ext F as F' as' → SR g F' as' μ' H' → RA g F' as' H' s v → Q v H'
  | .error x, μ' => ∀ F' as' cls d H', Ext F as F' as' → SR g F' as' μ' H' → RX g F' H' x cls d → E cls d H'
/-- the promise: it does what the shallow code tells -/
def spOf (g : G) (np : Nat) (sem : List S → Sto → Option R) : Sp := fun vs H Q E => vs.length = np ∧ ∃ F as ss μ r μ', SR g F as μ H ∧ RSs g F as ss vs ∧ sem ss μ = some (r, μ') ∧ PostC g F as Q E r μ'
section
variable {gb : Bool} {g : G} {X : Cx} {W : WX} {k : Nat} {f C : Addr} {fd : FuncData} {ps ks : List Str} {sp : Sp} {dvs : List V} {n : Nat}
/-- the callee runs -/
theorem run_sem {pins : List (Addr × Obj)} {σ : L2.St} {H : Hp} {s : Shared} {Q : VK} {us ws : List Value} {vs zs bs : List V} (F : FnG gb X.prog X.w X.K X.mg X.base (CX X.prog X.w) k f fd ps sp) (hr : Room k X.A) (gd : gb = true → X.A.guards = some []) (hb : Bnd X.K fd ps n ks dvs) (tk : Takes X W)
    (I : Inv X pins σ H s) (r : Vals vs us) (rz : Vals zs ws) (l1 : vs.length = n) (l2 : zs.length = ks.length) (hB : bindG ks vs zs dvs ps.length ps 0 = some bs) (h : sp bs H Q (WE W σ)) : wpAny (model X.prog X.w) X.A (call (.ref f) us (ks.zip ws)) (EP X pins σ Q) X.xe s := by
  obtain ⟨ds, rd, hb⟩ := hb.to
  obtain ⟨b, e1, e2⟩ := hb s us ws I.kIn (r.length.symm.trans l1) (rz.length.symm.trans l2)
  have r2 : Vals bs b := bindG_rel r rz rd hB e1
  refine wpAny_call (codeAny_mono (F.go X.A X.stack s H ⟨us, ks.zip ws⟩ b bs Q (WE W σ) hr gd I.env0 e2 r2 h) fun r s' hq => ?_)
  cases r with
  | error e => exact passAt tk σ pins H s e s' I hq
  | ok fl =>
    cases fl with
    | ret u => exact I.after hq
    | next => exact False.elim hq
    | brk => exact False.elim hq
    | cont => exact False.elim hq
/-- C(..): a new instance, its __init__ -/
theorem run_make_sem {pins : List (Addr × Obj)} {σ : L2.St} {H : Hp} {s : Shared} {Q : VK} {us ws : List Value} {vs zs : List V} (M : Mk X.K C f) (F : FnG gb X.prog X.w X.K X.mg X.base (CX X.prog X.w) k f fd ps sp) (hr : Room (k + 1) X.A) (gd : gb = true → X.A.guards = some []) (hb : Bnd X.K fd ps (n + 1) ks dvs)
    (tk : Takes X W) (I : Inv X pins σ H s) (r : Vals vs us) (rz : Vals zs ws) (l1 : vs.length = n) (l2 : zs.length = ks.length)
    (h : ∀ x dx, H x = none → H dx = none → dx ≠ x → ∃ bs, bindG ks (.ref x :: vs) zs dvs ps.length ps 0 = some bs ∧ sp bs (upd (upd H dx (.own x)) x (.ins C dx [])) (fun v H2 => v = .non ∧ Q (.ref x) H2) (WE W σ)) :
    wpAny (model X.prog X.w) X.A (call (.ref C) us (ks.zip ws)) (EP X pins σ Q) X.xe s := by
  obtain ⟨bs, hB, hq⟩ := h (s.heap.objs.size + 1) s.heap.objs.size (I.hok.fresh (Nat.le_succ _)) (I.hok.fresh (Nat.le_refl _)) (Nat.ne_of_lt (Nat.lt_succ_self _))
  have I2 := Inv.made (C := C) I
  have r1 : Vals (V.ref (s.heap.objs.size + 1) :: vs) (Value.ref (s.heap.objs.size + 1) :: us) := .cons rfl r
  obtain ⟨ds, rd, hb⟩ := hb.to
  obtain ⟨b, e1, e2⟩ := hb _ (Value.ref (s.heap.objs.size + 1) :: us) ws I2.kIn (by rw [List.length_cons, ← r.length, l1]) (rz.length.symm.trans l2)
  have r2 : Vals bs b := bindG_rel r1 rz rd hB e1
  refine wpAny_call (make_map (f := f) I.kIn M.makes M.init (beq_iff_eq.mp M.fn) (codeAny_mono (F.go _ X.stack _ _ ⟨Value.ref (s.heap.objs.size + 1) :: us, ks.zip ws⟩ b bs _ (WE W σ) (hr.make C us (ks.zip ws)) (fun e => make_guards.trans (gd e))
    (I2.env0.make C us (ks.zip ws)) e2 r2 hq) fun r s' hq' => ?_))
  cases r with
  | error e => exact passAt tk σ pins _ _ e s' I2 hq'
  | ok fl =>
    cases fl with
    | ret u =>
      obtain ⟨v, H', I3, rv, ev, q3⟩ := I2.after hq'
      subst ev
      exact ⟨rv, ⟨V.ref (s.heap.objs.size + 1), H', I3, rfl, q3⟩⟩
    | next => exact False.elim hq'
    | brk => exact False.elim hq'
    | cont => exact False.elim hq'
/-- an argument list with its code -/
inductive SAs (g : G) (X : Cx) (W : WX) : List Expr → List ME → Prop
  | nil : SAs g X W [] []
  | cons {e : Expr} {es : List Expr} {ms : List ME} (hn : (e :: es).all notStar = true) (h : SA g X W (e :: es) (mArgs ms)) : SAs g X W (e :: es) ms
theorem SAs.sa {es : List Expr} {ms : List ME} (h : SAs g X W es ms) : SA g X W es (mArgs ms) := by
  cases h with
  | nil => exact sa_nil
  | cons hn h => exact h
/-- the values of a call, then the call -/
theorem callW {fv : Value} {first : List Value} {es : List Expr} {ms kms : List ME} {kws : List Keyword} {pos : Pos} {pins : List (Addr × Obj)} {σ : L2.St} {H : Hp} {s : Shared} {Q : VK} {F : Hp} {as : List Addr} {ρ : En} {μ μ' : Sto} {r : Except Ex S}
    {f : List S → List S → Sto → Option R} (I : Inv X pins σ H s) (hk : PySem.W.keepIn X.K fv = true) (hks : kwNames kws = some ks) (ha : SAs g X W es ms) (hkw : SK g X W kws (mArgs kms))
    (h : (andThen (mArgs ms ρ μ) fun ss μ1 => andThen (mArgs kms ρ μ1) fun ts μ2 => f ss ts μ2) = some (r, μ')) (sr : SR g F as μ H) (er : ER g F as ρ σ) (hx : ∀ x, r = .error x → PErr g W F as σ x μ')
    (k : ∀ ss ts μ2 F2 as2 vs zs H2, f ss ts μ2 = some (r, μ') → Ext F as F2 as2 → SR g F2 as2 μ2 H2 → ER g F2 as2 ρ σ → RSs g F2 as2 ss vs → RSs g F2 as2 ts zs → ∀ (st : Shared) (us ws : List Value), Inv X pins σ H2 st → Vals vs us → Vals zs ws → wpAny (model X.prog X.w) X.A (call fv (first ++ us) (ks.zip ws)) (EP X pins σ Q) X.xe st) :
    wpAny (model X.prog X.w) X.A (callWith pos fv first (backTo pos (starEach es X.env)) (backToKw pos (keywordEach kws X.env))) (EP X pins σ Q) X.xe s := by
  obtain ⟨a, b, c, d⟩ := kw_all (env := X.env) (pos := pos) hks
  cases ha with
  | nil =>
    have q : wpK X kws σ H fun zs H2 => ∀ (st : Shared) (ws : List Value), Inv X pins σ H2 st → Vals zs ws → wpAny (model X.prog X.w) X.A (call fv (first ++ []) (ks.zip ws)) (EP X pins σ Q) X.xe st := by
      have h' : (andThen (mArgs kms ρ μ) fun ts μ2 => f [] ts μ2) = some (r, μ') := h
      exact hkw.then_ h' sr er hx fun ts μ2 F2 as2 zs H2 h2 x2 sr2 er2 rs2 st ws I2 rz => k [] ts μ2 F2 as2 [] zs H2 h2 x2 sr2 er2 .nil rs2 st [] ws I2 .nil rz
    refine PySem.W.callWith_KW0 (h₀ := X.base) I.ok.mod.kin hk a (thn (q pos pins s I) fun ws s2 ⟨zs, H2, I2, rz, q2⟩ => ⟨I2.kIn, ?_⟩) (by rw [c]; rfl)
    rw [b]
    exact q2 s2 ws I2 rz
  | cons hn ha =>
    rename_i e es
    rw [List.all_cons, Bool.and_eq_true] at hn
    have q : wpA X (e :: es) σ H fun vs H1 => wpK X kws σ H1 fun zs H2 => ∀ (st : Shared) (us ws : List Value), Inv X pins σ H2 st → Vals vs us → Vals zs ws → wpAny (model X.prog X.w) X.A (call fv (first ++ us) (ks.zip ws)) (EP X pins σ Q) X.xe st := by
      refine ha.then_ h sr er hx fun ss μ1 F1 as1 vs H1 h1 x1 sr1 er1 rs1 => ?_
      exact hkw.then_ h1 sr1 er1 (fun x e => (hx x e).ext x1) fun ts μ2 F2 as2 zs H2 h2 x2 sr2 er2 rs2 st us ws I2 ru rz => k ss ts μ2 F2 as2 vs zs H2 h2 (x1.trans x2) sr2 er2 (rs1.mono x2) rs2 st us ws I2 ru rz
    refine PySem.W.callWith_KW (h₀ := X.base) I.ok.mod.kin hk a (thn (q pos pins s I) fun us s1 ⟨vs, H1, I1, r, q⟩ => ?_) ?_ (starEach_cons hn.1)
    · refine thn (q pos pins s1 I1) fun ws s2 ⟨zs, H2, I2, rz, q2⟩ => ⟨I2.kIn, ?_⟩
      rw [b]
      exact q2 s2 us ws I2 r rz
    · rw [c, starEach_cons hn.1]
      show ((false || (backTo pos (starEach es X.env)).any (·.1)) || false) = false
      rw [starEach_plain hn.2]
      rfl
/-- a def as callers see it: parameters, defaults, code -/
structure FnI where
  ps : List Str
  dfl : List D
  sem : List S → Sto → Option R
def callF (fi : FnI) (n : Nat) (ks : List Str) (ss ts : List S) (μ : Sto) : Option R :=
  if ss.length = n ∧ ts.length = ks.length then (match bindG ks ss ts (fi.dfl.map .val) fi.ps.length fi.ps 0 with
    | some bs => fi.sem bs μ
    | none => none) else none
def mCallF (fi : FnI) (n : Nat) (ks : List Str) (ms kms : List ME) : ME := fun ρ μ => andThen (mArgs ms ρ μ) fun ss μ1 => andThen (mArgs kms ρ μ1) fun ts μ2 => callF fi n ks ss ts μ2
/-- what is known of a def there: its object, binding, promise -/
structure FnK (gb : Bool) (g : G) (X : Cx) (fi : FnI) (k : Nat) (f : Addr) (n : Nat) (ks : List Str) : Prop where
  ok : ∃ fd dvs, FnG gb X.prog X.w X.K X.mg X.base (CX X.prog X.w) k f fd fi.ps (spOf g fi.ps.length fi.sem) ∧ Bnd X.K fd fi.ps n ks dvs ∧ ∀ F, Reps g F fi.dfl dvs
theorem rss_vals {F : Hp} {as : List Addr} : ∀ {ds : List D} {vs : List V}, Reps g F ds vs → RSs g F as (ds.map .val) vs
  | [], vs, h => by rw [Reps.nil_iff.mp h]; exact .nil
  | d :: ds, vs, h => by
    obtain ⟨v, r, rfl, h1, h2⟩ := Reps.cons_iff.mp h
    exact .cons h1 (rss_vals h2)
theorem postC_of {F : Hp} {as : List Addr} {σ : L2.St} {Q : VK} {r : Except Ex S} {μ : Sto} (h : PostE g W F as σ Q r μ) : PostC g F as Q (WE W σ) r μ := by
  cases r with
  | ok s => exact h
  | error x => exact h
theorem callF_run {fi : FnI} {f : Addr} {pins : List (Addr × Obj)} {σ : L2.St} {H : Hp} {Q : VK} {F : Hp} {as : List Addr} {μ μ' : Sto} {r : Except Ex S} {ss ts : List S} {vs zs : List V} (hF : FnK gb g X fi k f n ks) (hr : Room k X.A) (gd : gb = true → X.A.guards = some []) (tk : Takes X W)
    (h : callF fi n ks ss ts μ = some (r, μ')) (sr : SR g F as μ H) (rs : RSs g F as ss vs) (rt' : RSs g F as ts zs) (post : PostE g W F as σ Q r μ') (st : Shared) (us ws : List Value) (I : Inv X pins σ H st) (ru : Vals vs us) (rw' : Vals zs ws) :
    wpAny (model X.prog X.w) X.A (call (.ref f) us (ks.zip ws)) (EP X pins σ Q) X.xe st := by
  obtain ⟨fd, dvs, ok, bnd, rd⟩ := hF.ok
  unfold callF at h
  split at h
  · rename_i hl
    split at h
    · rename_i bs hb
      obtain ⟨b', e1, e2⟩ := bindG_ex rs rt' (rss_vals (as := as) (rd F)) hb
      exact run_sem ok hr gd bnd tk I ru rw' (by rw [← Paired.length rs]; exact hl.1) (by rw [← Paired.length rt']; exact hl.2) e1 ⟨bindG_len e1, F, as, bs, μ, r, μ', sr, e2, h, postC_of post⟩
    · cases h
  · cases h
theorem se_call {fi : FnI} {f : Addr} {x : Str} {p pos : Pos} {es : List Expr} {kws : List Keyword} {ms kms : List ME} (hF : FnK gb g X fi k f n ks) (hr : Room k X.A) (gd : gb = true → X.A.guards = some []) (tk : Takes X W) (hg : Gl X x) (hm : X.mg x = some (.ref f)) (hk : PySem.W.keepIn X.K (.ref f) = true)
    (hdb : (x == ("__debug__" : Str)) = false) (hks : kwNames kws = some ks) (ha : SAs g X W es ms) (hkw : SK g X W kws (mArgs kms)) : SE g X W (.Call (.Name x p) es kws pos) (mCallF fi n ks ms kms) := by
  refine ⟨fun F as ρ μ σ H Q r μ' h sr er post pins s I => ?_⟩
  refine wpAny_Call_Name_kw (ld_glob I hg hm ?_ hdb)
  refine callW (first := []) (f := fun ss ts μ2 => callF fi n ks ss ts μ2) I hk hks ha hkw h sr er (fun x e => by subst e; exact post) fun ss ts μ2 F2 as2 vs zs H2 h2 x2 sr2 er2 rs2 rz2 st us ws I2 ru rz => ?_
  exact callF_run hF hr gd tk h2 sr2 rs2 rz2 (PostE.ext x2 post) st us ws I2 ru rz
structure MkI where
  c : Nat
  fl : List Str
  fi : FnI
def finM (mi : MkI) (k : Nat) : Option R → Option R
  | some (.ok (.val .non), μ3) => (match μ3[k]? with
    | some (.ins c fs) => if c = mi.c ∧ fs.map (·.1) = mi.fl then some (.ok (.val (.obj mi.c (fs.map (·.2)))), μ3.take k) else none
    | _ => none)
  | some (.error x, μ3) => some (.error x, μ3.take k)
  | _ => none
def callM (mi : MkI) (n : Nat) (ks : List Str) (ss ts : List S) (μ : Sto) : Option R :=
  if ss.length = n ∧ ts.length = ks.length then (match bindG ks (.cell μ.length :: ss) ts (mi.fi.dfl.map .val) mi.fi.ps.length mi.fi.ps 0 with
    | some bs => finM mi μ.length (mi.fi.sem bs (μ ++ [.ins mi.c []]))
    | none => none) else none
def mMake (mi : MkI) (n : Nat) (ks : List Str) (ms kms : List ME) : ME := fun ρ μ => andThen (mArgs ms ρ μ) fun ss μ1 => andThen (mArgs kms ρ μ1) fun ts μ2 => callM mi n ks ss ts μ2
theorem take_ext {F F' : Hp} {as as' : List Addr} {μ : Sto} {H : Hp} (sr : SR g F as μ H) (x : Ext F as F' as') : as'.take μ.length = as := by
  obtain ⟨_, l, rfl⟩ := x
  rw [← sr.len, List.take_left]
/-- the store cut back behind a call -/
theorem SR.back {F F' : Hp} {as as' : List Addr} {μ μ' : Sto} {H H' : Hp} (sr : SR g F as μ H) (x : Ext F as F' as') (sr' : SR g F' as' μ' H') : SR g F' as (μ'.take μ.length) H' := by
  have := sr'.cut μ.length
  rw [take_ext sr x] at this
  exact this
theorem se_make {mi : MkI} {f : Addr} {x : Str} {p pos : Pos} {es : List Expr} {kws : List Keyword} {ms kms : List ME} (hF : FnK gb g X mi.fi k f (n + 1) ks) (hr : Room (k + 1) X.A) (gd : gb = true → X.A.guards = some []) (tk : Takes X W) (M : Mk X.K (g.cad mi.c) f) (hfl : g.fl mi.c = mi.fl) (hg : Gl X x) (hm : X.mg x = some (.ref (g.cad mi.c)))
    (hdb : (x == ("__debug__" : Str)) = false) (hks : kwNames kws = some ks) (ha : SAs g X W es ms) (hkw : SK g X W kws (mArgs kms)) : SE g X W (.Call (.Name x p) es kws pos) (mMake mi n ks ms kms) := by
  refine ⟨fun F as ρ μ σ H Q r μ' h sr er post pins s I => ?_⟩
  refine wpAny_Call_Name_kw (ld_glob I hg hm ?_ hdb)
  refine callW (first := []) (f := fun ss ts μ2 => callM mi n ks ss ts μ2) I M.kp hks ha hkw h sr er (fun x e => by subst e; exact post) fun ss ts μ2 F2 as2 vs zs H2 h2 x2 sr2 er2 rs2 rz2 st us ws I2 ru rz => ?_
  obtain ⟨fd, dvs, ok, bnd, rd⟩ := hF.ok
  unfold callM at h2
  split at h2
  · rename_i hl
    split at h2
    · rename_i bs hb
      refine run_make_sem M ok hr gd bnd tk I2 ru rz (by rw [← Paired.length rs2]; exact hl.1) (by rw [← Paired.length rz2]; exact hl.2) fun a dx ha' hdx hne => ?_
      -- the instance as a cell
      obtain ⟨sr3, f3, n3⟩ := sr2.loose (o := .own a) hdx
      have ha3 : upd H2 dx (.own a) a = none := by rw [upd_ne (Ne.symm hne)]; exact ha'
      obtain ⟨sr4, f4, n4⟩ := sr3.loose (o := .ins (g.cad mi.c) dx []) ha3
      obtain ⟨sr5, x5⟩ := sr4.push (c := .ins mi.c []) upd_same n4 ⟨f4, dx, [], upd_same, rfl, Reps.nil⟩
      have hself : RSs g F2 (as2 ++ [a]) (.cell μ2.length :: ss) (.ref a :: vs) := .cons ⟨a, by rw [← sr2.len, List.getElem?_append_right (Nat.le_refl _), Nat.sub_self]; rfl, rfl⟩ (rs2.mono x5)
      obtain ⟨b', e1, e2⟩ := bindG_ex hself (rz2.mono x5) (rss_vals (as := as2 ++ [a]) (rd F2)) hb
      refine ⟨b', e1, bindG_len e1, ?_⟩
      -- its __init__'s run
      cases hs : mi.fi.sem bs (μ2 ++ [.ins mi.c []]) with
      | none => rw [hs] at h2; cases h2
      | some q =>
        obtain ⟨r3, μ3⟩ := q
        rw [hs] at h2
        refine ⟨F2, as2 ++ [a], bs, _, r3, μ3, sr5, e2, hs, ?_⟩
        cases r3 with
        | error x =>
          cases h2
          exact fun F' as' cls d H' x6 sr6 rx => post F' as2 cls d H' (x2.trans ⟨x6.1, [], by rw [List.append_nil]⟩) (sr2.back (x5.trans x6) sr6) rx
        | ok s3 =>
          intro F' as' v H' x6 sr6 ra6
          cases s3 with
          | cell _ => cases h2
          | fr _ => cases h2
          | pot _ _ _ => cases h2
          | any => cases h2
          | val d =>
            cases d with
            | non =>
              unfold finM at h2
              simp only at h2
              split at h2
              · rename_i c fs hc
                split at h2
                · rename_i hcf
                  obtain ⟨rfl, hfs⟩ := hcf
                  cases h2
                  have hv : v = .non := by have z : Rep g F' .non v := ra6; unfold Rep at z; exact z
                  refine ⟨hv, ?_⟩
                  have hka : as'[μ2.length]? = some a := by
                    obtain ⟨_, l, rfl⟩ := x6
                    rw [← sr2.len, List.append_assoc, List.getElem?_append_right (Nat.le_refl _), Nat.sub_self]
                    rfl
                  obtain ⟨fa, dx', vs', h6, h7, h8⟩ := sr6.cells _ _ _ hka hc
                  have hrep : Rep g (upd F' a (.ins (g.cad mi.c) dx' ((fs.map (·.1)).zip vs'))) (.obj mi.c (fs.map (·.2))) (.ref a) := by
                    unfold Rep
                    refine ⟨a, dx', vs', rfl, ?_, ?_, h8.mono (same_upd fa)⟩
                    · rw [upd_same, hfl, hfs]
                    · rw [hfl, ← hfs, List.length_map]; exact h7
                  obtain ⟨sr7, x7⟩ := sr6.still hka h6 fa hrep
                  have x8 : Ext F2 as2 (upd F' a (.ins (g.cad mi.c) dx' ((fs.map (·.1)).zip vs'))) as' := (x5.trans x6).trans x7
                  have sr8 := sr2.back x8 sr7
                  have ht : (μ3.set μ2.length (.frz (.obj mi.c (fs.map (·.2))))).take μ2.length = μ3.take μ2.length := by rw [List.take_set_of_le (Nat.le_refl _)]
                  rw [ht] at sr8
                  exact post _ as2 _ H' (x2.trans ⟨x8.1, [], by rw [List.append_nil]⟩) sr8 hrep
                · cases h2
              · cases h2
            | _ => cases h2
    · cases h2
  · cases h2
end
/-- a receiver where super isn't meant -/
def recvOk : Expr → Bool
  | .Call (.Name id _) [] [] _ => id != ("super" : Str)
  | _ => true
theorem recv_base {o : Expr} {m : Str} {env : PySem.Env} (h : recvOk o = true) : attributeBase o m env (eval o env) = eval o env := by
  cases o with
  | Call fn args kws pos =>
    cases fn with
    | Name id p =>
      cases args with
      | nil =>
        cases kws with
        | nil => exact abase_call h
        | cons _ _ => rfl
      | cons _ _ => rfl
    | _ => rfl
  | _ => rfl
theorem all_plain : ∀ {es : List Expr} {env : PySem.Env} {pos : Pos}, es.all notStar = true → (backTo pos (starEach es env)).all (fun x => !x.1) = true
  | [], _, _, _ => rfl
  | e :: es, env, pos, h => by
    rw [List.all_cons, Bool.and_eq_true] at h
    rw [starEach_cons h.1]
    show (true && (backTo pos (starEach es env)).all (fun x => !x.1)) = true
    rw [all_plain h.2]; rfl
theorem SAs.plain {g : G} {X : Cx} {W : WX} {es : List Expr} {ms : List ME} (h : SAs g X W es ms) : es.all notStar = true := by
  cases h with
  | nil => rfl
  | cons hn _ => exact hn
/-- the line and the number of arguments of a method's call -/
def methForm (apos pos : Pos) (es : List Expr) (kws : List Keyword) : Bool := (apos.endLine == pos.line) && decide (es.length + kws.length + (if kws.isEmpty then 0 else 1) < 30)
theorem meth_tree {X : Cx} {o : Expr} {m : Str} {apos pos : Pos} {es : List Expr} {kws : List Keyword} {ks : List Str} {A : Around} {E : Value → Shared → Prop} {s : Shared} {Q : Value → Shared → Prop} (hb : recvOk o = true) (hst : es.all notStar = true) (hks : kwNames kws = some ks) (hf : methForm apos pos es kws = true)
    (h : wpAny (model X.prog X.w) A (eval o X.env) (fun ov s1 => wpAny (model X.prog X.w) A (getMethod ov m (do return (← importBound o X.env).getD true)) (fun fx s2 => wpAny (model X.prog X.w) A (callWith pos fx.1 fx.2 (backTo pos (starEach es X.env)) (backToKw pos (keywordEach kws X.env))) Q E s2) E s1) E s) :
    wpAny (model X.prog X.w) A (eval (.Call (.Attribute o m apos) es kws pos) X.env) Q E s := by
  obtain ⟨a, b, c, d⟩ := kw_all (env := X.env) (pos := pos) hks
  unfold methForm at hf
  rw [Bool.and_eq_true] at hf
  rw [arm_eval_Call, recv_base hb]
  refine wpAny_bind (thn h fun ov s1 h1 => wpAny_bind (wpAny_standAt ?_))
  have hke : (backToKw pos (keywordEach kws X.env)).isEmpty = kws.isEmpty := by
    cases kws with
    | nil => rfl
    | cons k r => cases k; rfl
  have hform : methodCallForm (es.length + kws.length) (backTo pos (starEach es X.env)) (backToKw pos (keywordEach kws X.env)) = true := by
    unfold methodCallForm
    rw [all_plain hst, a, hke]
    exact hf.2
  have hpos : methodCallPos true o X.env apos pos = pure pos := by
    unfold methodCallPos
    rw [hf.1]
    rfl
  unfold methodCall
  rw [hform]
  refine wpAny_bind (wpAny_holding ?_)
  unfold calleeOf
  rw [if_pos rfl]
  exact thn h1 fun fx s2 h2 => wpAny_bind (wpAny_of_eq hpos h2)
end Sz
set_option Elab.async false
set_option linter.all false
set_option maxRecDepth 100000
set_option maxHeartbeats 4000000
namespace Sz
open PySem PySem.Spec L2
def PostS (g : G) (W : WX) (F : Hp) (as : List Addr) (D : Ends) : Fl → En → Sto → Prop
  | .nx, ρ', μ' => ∀ F' as' σ' H', Ext F as F' as' → SR g F' as' μ' H' → ER g F' as' ρ' σ' → D.nx σ' H'
  | .bk, ρ', μ' => ∀ F' as' σ' H', Ext F as F' as' → SR g F' as' μ' H' → ER g F' as' ρ' σ' → D.bk σ' H'
  | .ct, ρ', μ' => ∀ F' as' σ' H', Ext F as F' as' → SR g F' as' μ' H' → ER g F' as' ρ' σ' → D.ct σ' H'
  | .rt s, ρ', μ' => ∀ F' as' v H', Ext F as F' as' → SR g F' as' μ' H' → RA g F' as' H' s v → D.rt v H'
  | .ex x, ρ', μ' => ∀ F' as' σ' cls d H', Ext F as F' as' → SR g F' as' μ' H' → ER g F' as' ρ' σ' → RX g F' H' x cls d → W cls d σ' H'
structure SS (g : G) (X : Cx) (W : WX) (st : Stmt) (m : MS) : Prop where
  run : ∀ (F : Hp) (as : List Addr) (ρ : En) (μ : Sto) (σ : L2.St) (H : Hp) (D : Ends) (fl : Fl) (ρ' : En) (μ' : Sto), m ρ μ = some (fl, ρ', μ') → SR g F as μ H → ER g F as ρ σ → PostS g W F as D fl ρ' μ' → wpS X st D σ H
structure SB (g : G) (X : Cx) (W : WX) (sts : List Stmt) (m : MS) : Prop where
  run : ∀ (F : Hp) (as : List Addr) (ρ : En) (μ : Sto) (σ : L2.St) (H : Hp) (D : Ends) (fl : Fl) (ρ' : En) (μ' : Sto), m ρ μ = some (fl, ρ', μ') → SR g F as μ H → ER g F as ρ σ → PostS g W F as D fl ρ' μ' → wpB X sts D σ H
section
variable {g : G} {X : Cx} {W : WX} {F F1 : Hp} {as as1 : List Addr} {D : Ends} {fl : Fl} {ρ : En} {μ : Sto} {σ : L2.St}
theorem PostS.ext (x : Ext F as F1 as1) (h : PostS g W F as D fl ρ μ) : PostS g W F1 as1 D fl ρ μ := by
  cases fl with
  | nx => exact fun F' as' σ' H' e => h F' as' σ' H' (x.trans e)
  | bk => exact fun F' as' σ' H' e => h F' as' σ' H' (x.trans e)
  | ct => exact fun F' as' σ' H' e => h F' as' σ' H' (x.trans e)
  | rt s => exact fun F' as' v H' e => h F' as' v H' (x.trans e)
  | ex y => exact fun F' as' σ' cls d H' e => h F' as' σ' cls d H' (x.trans e)
theorem PostS.err {x : Ex} (er : ER g F as ρ σ) (h : PostS g W F as D (.ex x) ρ μ) : PErr g W F as σ x μ := fun F' as' cls d H' e sr rx => h F' as' σ cls d H' e sr (er.mono e) rx
end
def sNil : MS := fun ρ μ => some (.nx, ρ, μ)
def sSeq (a b : MS) : MS := fun ρ μ => match a ρ μ with
  | some (.nx, ρ1, μ1) => b ρ1 μ1
  | r => r
section
variable {g : G} {X : Cx} {W : WX} {st : Stmt} {sts : List Stmt} {a b : MS} {pos : Pos}
theorem sb_nil : SB g X W [] sNil := by
  refine ⟨fun F as ρ μ σ H D fl ρ' μ' h sr er post => wB pss_nil ?_⟩
  cases h
  exact post F as σ H .refl sr er
theorem sb_cons (h1 : SS g X W st a) (h2 : SB g X W sts b) : SB g X W (st :: sts) (sSeq a b) := by
  refine ⟨fun F as ρ μ σ H D fl ρ' μ' h sr er post => wB (pss_cons ps_wp pss_wp) ?_⟩
  show wpS X st { D with nx := wpB X sts D } σ H
  unfold sSeq at h
  split at h
  · rename_i ρ1 μ1 h3
    exact h1.run F as ρ μ σ H _ .nx ρ1 μ1 h3 sr er fun F' as' σ' H' e sr' er' => h2.run F' as' ρ1 μ1 σ' H' D fl ρ' μ' h sr' er' (post.ext e)
  · rename_i hne
    refine h1.run F as ρ μ σ H _ fl ρ' μ' h sr er ?_
    cases fl with
    | nx => exact absurd h (hne _ _)
    | bk => exact post
    | ct => exact post
    | rt s => exact post
    | ex x => exact post
end
/-- an expression, then what follows -/
def exThen {α : Type} (r : Option (Except Ex α × Sto)) (ρ : En) (f : α → Sto → Option (Fl × En × Sto)) : Option (Fl × En × Sto) := match r with
  | none => none
  | some (.error x, μ) => some (.ex x, ρ, μ)
  | some (.ok s, μ) => f s μ
section
variable {g : G} {X : Cx} {W : WX} {e : Expr} {m : ME} {F : Hp} {as : List Addr} {ρ ρ' : En} {μ μ' : Sto} {σ : L2.St} {H : Hp} {D : Ends} {fl : Fl}
theorem exThen_some {α : Type} {r : Option (Except Ex α × Sto)} {f : α → Sto → Option (Fl × En × Sto)} {q : Fl × En × Sto} (h : exThen r ρ f = some q) :
    (∃ x, r = some (.error x, q.2.2) ∧ q.1 = .ex x ∧ q.2.1 = ρ) ∨ ∃ s μ, r = some (.ok s, μ) ∧ f s μ = some q := by
  unfold exThen at h
  match r, h with
  | none, h => cases h
  | some (.error x, μ), h => cases h; exact .inl ⟨x, rfl, rfl, rfl⟩
  | some (.ok s, μ), h => exact .inr ⟨s, μ, rfl, h⟩
theorem SE.st {Q : VK} {f : S → Sto → Option (Fl × En × Sto)} (he : SE g X W e m) (h : exThen (m ρ μ) ρ f = some (fl, ρ', μ')) (sr : SR g F as μ H) (er : ER g F as ρ σ) (post : PostS g W F as D fl ρ' μ')
    (k : ∀ s μ1 F1 as1 v H1, f s μ1 = some (fl, ρ', μ') → Ext F as F1 as1 → SR g F1 as1 μ1 H1 → ER g F1 as1 ρ σ → RA g F1 as1 H1 s v → Q v H1) : wpE X e σ H Q := by
  rcases exThen_some h with ⟨x, h1, h2, h3⟩ | ⟨s, μ1, h1, h2⟩
  · dsimp only at h1 h2 h3
    subst h2 h3
    exact he.run F as ρ' μ σ H Q (.error x) μ' h1 sr er (post.err er)
  · exact he.run F as ρ μ σ H Q (.ok s) μ1 h1 sr er fun F' as' v H' e' r' q => k s μ1 F' as' v H' h2 e' r' (er.mono e') q
theorem STe.st {m : MT} {Q : Bool → Hp → Prop} {f : Bool → Sto → Option (Fl × En × Sto)} (he : STe g X W e m) (h : exThen (m ρ μ) ρ f = some (fl, ρ', μ')) (sr : SR g F as μ H) (er : ER g F as ρ σ) (post : PostS g W F as D fl ρ' μ')
    (k : ∀ b μ1 F1 as1 H1, f b μ1 = some (fl, ρ', μ') → Ext F as F1 as1 → SR g F1 as1 μ1 H1 → ER g F1 as1 ρ σ → Q b H1) : wpT X e σ H Q := by
  rcases exThen_some h with ⟨x, h1, h2, h3⟩ | ⟨s, μ1, h1, h2⟩
  · dsimp only at h1 h2 h3
    subst h2 h3
    exact he.run F as ρ' μ σ H Q (.error x) μ' h1 sr er (post.err er)
  · exact he.run F as ρ μ σ H Q (.ok s) μ1 h1 sr er fun F' as' H' e' r' => k s μ1 F' as' H' h2 e' r' (er.mono e')
end
def sRet (m : ME) : MS := fun ρ μ => exThen (m ρ μ) ρ fun s μ1 => some (.rt s, ρ, μ1)
def sIf (t : MT) (a b : MS) : MS := fun ρ μ => exThen (t ρ μ) ρ fun c μ1 => if c then a ρ μ1 else b ρ μ1
def sExpr (m : ME) : MS := fun ρ μ => exThen (m ρ μ) ρ fun _ μ1 => some (.nx, ρ, μ1)
def notComp : Expr → Bool
  | .ListComp _ _ _ _ => false
  | .SetComp _ _ _ _ => false
  | .DictComp _ _ _ _ _ => false
  | _ => true
theorem swaps_no {e : Expr} {t : Option Expr} {l : Nat} {env : PySem.Env} (h : notComp e = true) : swapsWith e t l env = pure false := by
  cases e <;> first | rfl | (exact absurd (show false = true from h) Bool.false_ne_true)
section
variable {g : G} {X : Cx} {W : WX} {e c : Expr} {m : ME} {t : MT} {a b : List Stmt} {ma mb : MS} {pos : Pos}
theorem ss_ret (he : SE g X W e m) : SS g X W (.Return (some e) pos) (sRet m) := by
  refine ⟨fun F as ρ μ σ H D fl ρ' μ' h sr er post => wS (ps_ret pe_wp) ?_⟩
  refine he.st h sr er post fun s μ1 F1 as1 v H1 h1 x1 sr1 er1 ra1 => ?_
  cases h1
  exact post F1 as1 v H1 x1 sr1 ra1
theorem ss_if (hc : STe g X W c t) (ha : SB g X W a ma) (hb : SB g X W b mb) : SS g X W (.If c a b pos) (sIf t ma mb) := by
  refine ⟨fun F as ρ μ σ H D fl ρ' μ' h sr er post => wS (ps_if pt_wp pss_wp pss_wp) ?_⟩
  refine hc.st h sr er post fun k μ1 F1 as1 H1 h1 x1 sr1 er1 => ?_
  cases k with
  | true => rw [if_pos rfl] at h1 ⊢; exact ha.run F1 as1 ρ μ1 σ H1 D fl ρ' μ' h1 sr1 er1 (post.ext x1)
  | false => rw [if_neg Bool.false_ne_true] at h1 ⊢; exact hb.run F1 as1 ρ μ1 σ H1 D fl ρ' μ' h1 sr1 er1 (post.ext x1)
theorem ss_expr (he : SE g X W e m) (hs : notComp e = true) : SS g X W (.Expr e pos) (sExpr m) := by
  refine ⟨fun F as ρ μ σ H D fl ρ' μ' h sr er post => wS (ps_expr pe_wp (swaps_no hs)) ?_⟩
  refine he.st h sr er post fun s μ1 F1 as1 v H1 h1 x1 sr1 er1 ra1 => ?_
  cases h1
  exact post F1 as1 σ H1 x1 sr1 er1
end
/-- a target's code: what is stored, the slots, the store -/
abbrev MG := S → En → Sto → Option (En × Sto)
abbrev wpG (X : Cx) (tg : Expr) : TG := fun v σ H Q => ∀ (pins : List (Addr × Obj)) (s : Shared) (u : Value), Inv X pins σ H s → RelV v u → wpAny (model X.prog X.w) X.A (assign tg X.env u) (fun _ s' => ∃ σ' H', Inv X pins σ' H' s' ∧ Q σ' H') X.xe s
theorem pg_wp {X : Cx} {tg : Expr} : PG X tg (wpG X tg) := ⟨fun pins s σ H v u Q I r h => h pins s u I r⟩
/-- sl: the slots that it may store to -/
structure SG (g : G) (X : Cx) (tg : Expr) (sl : List Nat) (m : MG) : Prop where
  run : ∀ (F : Hp) (as : List Addr) (ρ : En) (μ : Sto) (σ : L2.St) (H : Hp) (s : S) (v : V) (Q : L2.St → Hp → Prop) (ρ' : En) (μ' : Sto), m s ρ μ = some (ρ', μ') → SR g F as μ H → ER g F as ρ σ → RA g F as H s v →
    (∀ F' as' σ' H', Ext F as F' as' → SR g F' as' μ' H' → ER g F' as' ρ' σ' → (∀ ws : List Nat, (∀ i ∈ sl, i ∈ ws) → wipe σ' ws = wipe σ ws) → Q σ' H') → wpG X tg v σ H Q
theorem wipe_in {σ : L2.St} {i : Nat} : ∀ {vs : List Nat}, i ∈ vs → (wipe σ vs)[i]? = if i < σ.length then some none else none
  | [], h => by cases h
  | v :: vs, h => by
    unfold wipe
    by_cases e : v = i
    · subst e
      by_cases hl : v < σ.length
      · rw [if_pos hl, List.getElem?_set_self (by rw [wipe_length]; exact hl)]
      · rw [if_neg hl, List.getElem?_eq_none (by rw [List.length_set, wipe_length]; omega)]
    · rw [List.getElem?_set_ne e]
      exact wipe_in (by
        rcases List.mem_cons.mp h with z | z
        · exact absurd z.symm e
        · exact z)
theorem wipe_set {σ : L2.St} {i : Nat} {x : Option V} {ws : List Nat} (h : i ∈ ws) : wipe (σ.set i x) ws = wipe σ ws := by
  apply List.ext_getElem?
  intro j
  by_cases hj : j ∈ ws
  · rw [wipe_in hj, wipe_in hj, List.length_set]
  · rw [wipe_out hj, wipe_out hj]
    exact List.getElem?_set_ne (show i ≠ j from fun z => hj (by rw [← z]; exact h))
/-- a thing made its owner's: a new list becomes a cell, if the name is one that is changed -/
def own (fl : Bool) (s : S) (μ : Sto) : S × Sto := match s, fl with
  | .fr ds, true => (.cell μ.length, μ ++ [.lst ds])
  | .pot none is ds, true => (.cell (μ ++ [C.lst is]).length, μ ++ [C.lst is] ++ [C.pot μ.length ds])
  | s, _ => (rt s, μ)
theorem own_ok {g : G} {F : Hp} {as : List Addr} {μ : Sto} {H : Hp} {s : S} {v : V} (fl : Bool) (sr : SR g F as μ H) (h : RA g F as H s v) : ∃ F' as', Ext F as F' as' ∧ SR g F' as' (own fl s μ).2 H ∧ RS g F' as' (own fl s μ).1 v := by
  have plain : (own fl s μ = (rt s, μ)) → ∃ F' as', Ext F as F' as' ∧ SR g F' as' (own fl s μ).2 H ∧ RS g F' as' (own fl s μ).1 v := fun e => by
    obtain ⟨F', x, r, q⟩ := root_ok sr h
    rw [e]
    exact ⟨F', as, x, r, q⟩
  cases s with
  | val d => exact plain rfl
  | cell k => exact plain rfl
  | fr ds =>
    cases fl with
    | false => exact plain rfl
    | true =>
      obtain ⟨p, vs, e1, e2, e3, e4, e5⟩ := (show ∃ p vs, v = .ref p ∧ H p = some (.lst vs) ∧ F p = none ∧ p ∉ as ∧ Reps g F ds vs from h)
      obtain ⟨r, x⟩ := sr.push (c := .lst ds) e2 e4 ⟨e3, vs, e2, e5⟩
      exact ⟨F, as ++ [p], x, r, p, by rw [← sr.len, List.getElem?_append_right (Nat.le_refl _), Nat.sub_self]; rfl, e1⟩
  | any => exact plain rfl
  | pot j is ds =>
    cases j with
    | some j => exact plain rfl
    | none =>
      cases fl with
      | false => exact plain rfl
      | true =>
        obtain ⟨p, q, vs, us, e1, e2, e3, e4, e5, e6, e7, e8, e9, e10⟩ := (show ∃ p q vs us, v = .ref p ∧ H p = some (.lst (.ref q :: us)) ∧ F p = none ∧ p ∉ as ∧ H q = some (.lst vs) ∧ F q = none ∧ q ∉ as ∧ p ≠ q ∧ Reps g F is vs ∧ Reps g F ds us from h)
        obtain ⟨r1, x1⟩ := sr.push (c := .lst is) e5 e7 ⟨e6, vs, e5, e9⟩
        have e4' : p ∉ as ++ [q] := fun hm => (List.mem_append.mp hm).elim e4 (fun z => e8 (List.mem_singleton.mp z))
        obtain ⟨r2, x2⟩ := r1.push (c := .pot μ.length ds) e2 e4' ⟨e3, q, us, by rw [← sr.len, List.getElem?_append_right (Nat.le_refl _), Nat.sub_self]; rfl, e2, e10⟩
        exact ⟨F, as ++ [q] ++ [p], x1.trans x2, r2, p, by rw [← r1.len, List.getElem?_append_right (Nat.le_refl _), Nat.sub_self]; rfl, e1⟩
def gNm (i : Nat) (fl : Bool) : MG := fun s ρ μ => some (ρ.set i (some (own fl s μ).1), (own fl s μ).2)
def gVals : List MG → List D → En → Sto → Option (En × Sto)
  | [], [], ρ, μ => some (ρ, μ)
  | t :: ts, d :: ds, ρ, μ => match t (.val d) ρ μ with
    | some (ρ1, μ1) => gVals ts ds ρ1 μ1
    | none => none
  | _, _, _, _ => none
def gTu (ts : List MG) : MG := fun s ρ μ => match vw μ s with
  | some (.tup ds) => gVals ts ds ρ μ
  | some (.lst ds) => gVals ts ds ρ μ
  | _ => none
/-- several targets -/
inductive SGs (g : G) (X : Cx) : List Expr → List Nat → List MG → Prop
  | nil : SGs g X [] [] []
  | cons {e : Expr} {es : List Expr} {sl sl' : List Nat} {t : MG} {ts : List MG} (hs : notStar e = true) (h : SG g X e sl t) (r : SGs g X es sl' ts) : SGs g X (e :: es) (sl ++ sl') (t :: ts)
theorem assignEach_cons {e : Expr} {es : List Expr} {env : PySem.Env} (h : notStar e = true) : assignEach (e :: es) env = (false, assign e env) :: assignEach es env := by
  cases e <;> first | rfl | (exact absurd (show false = true from h) Bool.false_ne_true)
section
variable {g : G} {X : Cx} {pos : Pos}
theorem sg_name {i : Nat} {x : Str} {fl : Bool} (hN : X.N.Nodup) (hi : X.N[i]? = some x) (hx : Loc X.env.scope x) (hf : X.fn x = true ∨ X.env.scope.names.lookup x = some .local) : SG g X (.Name x pos) [i] (gNm i fl) := by
  refine ⟨fun F as ρ μ σ H s v Q ρ' μ' h sr er ra k pins st u I ru => ?_⟩
  cases h
  obtain ⟨F', as', x', sr', rs⟩ := own_ok fl sr ra
  exact (pg_name hN hi hx hf).run pins st σ H v u Q I ru (k F' as' _ H x' sr' ((er.mono x').set rs) fun ws hw => wipe_set (hw i List.mem_cons_self))
abbrev wpGs (X : Cx) (ts : List Expr) : TGs := fun vs σ H Q => ∀ (pins : List (Addr × Obj)) (s : Shared) (us : List Value), Inv X pins σ H s → Vals vs us → wpAny (model X.prog X.w) X.A (assignInOrder ((assignEach ts X.env).map (·.2)) us) (fun _ s' => ∃ σ' H', Inv X pins σ' H' s' ∧ Q σ' H') X.xe s
theorem pgs_wp {ts : List Expr} : PGs X ts (wpGs X ts) := ⟨fun pins s σ H vs us Q I r h => h pins s us I r⟩
theorem sgs_run {es : List Expr} {sl : List Nat} {ts : List MG} (h : SGs g X es sl ts) : ∀ (F : Hp) (as : List Addr) (ρ : En) (μ : Sto) (σ : L2.St) (H : Hp) (ds : List D) (vs : List V) (Q : L2.St → Hp → Prop) (ρ' : En) (μ' : Sto), gVals ts ds ρ μ = some (ρ', μ') → SR g F as μ H → ER g F as ρ σ → Reps g F ds vs →
    (∀ F' as' σ' H', Ext F as F' as' → SR g F' as' μ' H' → ER g F' as' ρ' σ' → (∀ ws : List Nat, (∀ i ∈ sl, i ∈ ws) → wipe σ' ws = wipe σ ws) → Q σ' H') → wpGs X es vs σ H Q := by
  induction h with
  | nil =>
    intro F as ρ μ σ H ds vs Q ρ' μ' h sr er r k
    cases ds with
    | cons _ _ => cases h
    | nil =>
      cases h
      rw [Reps.nil_iff.mp r]
      exact fun pins s us I ru => pgs_nil.run pins s σ H [] us Q I ru ⟨rfl, k F as σ H .refl sr er fun _ _ => rfl⟩
  | @cons e es sl sl' t ts hs he hr ih =>
    intro F as ρ μ σ H ds vs Q ρ' μ' h sr er r k
    cases ds with
    | nil => cases h
    | cons d ds =>
      unfold gVals at h
      split at h
      · rename_i ρ1 μ1 h1
        obtain ⟨v, r', rfl, r1, r2⟩ := Reps.cons_iff.mp r
        refine fun pins s us I ru => (pgs_cons (pg_wp (X := X) (tg := e)) (pgs_wp (X := X) (ts := es)) (by rw [assignEach_cons hs]; rfl)).run pins s σ H (v :: r') us Q I ru ⟨v, r', rfl, ?_⟩
        exact he.run F as ρ μ σ H (.val d) v _ ρ1 μ1 h1 sr er r1 fun F1 as1 σ1 H1 x1 sr1 er1 w1 => ih F1 as1 ρ1 μ1 σ1 H1 ds r' Q ρ' μ' h sr1 er1 (r2.mono x1.1) fun F' as' σ' H' x' sr' er' w' => k F' as' σ' H' (x1.trans x') sr' er' fun ws hw => (w' ws fun i hi => hw i (List.mem_append_right _ hi)).trans (w1 ws fun i hi => hw i (List.mem_append_left _ hi))
      · cases h
theorem sgs_each {es : List Expr} {sl : List Nat} {ts : List MG} (h : SGs g X es sl ts) : (assignEach es X.env).findIdx? (·.1) = none ∧ (assignEach es X.env).length = ts.length := by
  induction h with
  | nil => exact ⟨rfl, rfl⟩
  | cons hs _ _ ih =>
    rw [assignEach_cons hs]
    refine ⟨?_, by rw [List.length_cons, List.length_cons, ih.2]⟩
    rw [List.findIdx?_cons]
    simp only [Bool.false_eq_true, if_false, ih.1, Option.map_none]
theorem gVals_len : ∀ {ts : List MG} {ds : List D} {ρ : En} {μ : Sto} {q : En × Sto}, gVals ts ds ρ μ = some q → ds.length = ts.length
  | [], [], _, _, _, _ => rfl
  | [], _ :: _, _, _, _, h => by cases h
  | _ :: _, [], _, _, _, h => by cases h
  | t :: ts, d :: ds, ρ, μ, q, h => by
    unfold gVals at h
    split at h
    · rw [List.length_cons, List.length_cons, gVals_len h]
    · cases h
theorem sg_tup {es : List Expr} {sl : List Nat} {ts : List MG} {k : Nat} (hg : g.K = X.K) (hc : X.calm = true) (hs : SGs g X es sl ts) : SG g X (.Tuple es k pos) sl (gTu ts) := by
  refine ⟨fun F as ρ μ σ H s v Q ρ' μ' h sr er ra kk pins st u I ru => ?_⟩
  obtain ⟨h1, h2⟩ := sgs_each hs
  unfold gTu at h
  split at h
  · rename_i ds hv
    obtain ⟨a, vs, rfl, e1, e2⟩ := vr_tup sr (view_ra sr ra hv)
    exact (pg_tup hc (pgs_wp (X := X) (ts := es)) h2 h1).run pins st σ H _ u Q I ru ⟨a, vs, rfl, hg ▸ e1, by rw [e2.length]; exact gVals_len h, sgs_run hs F as ρ μ σ H ds vs Q ρ' μ' h sr er e2 kk⟩
  · rename_i ds hv
    obtain ⟨a, vs, rfl, e1, e2⟩ := vr_lst sr (view_ra sr ra hv)
    exact (pg_lst hc (pgs_wp (X := X) (ts := es)) h2 h1).run pins st σ H _ u Q I ru ⟨a, vs, rfl, SqL.of e1, by rw [e2.length]; exact gVals_len h, sgs_run hs F as ρ μ σ H ds vs Q ρ' μ' h sr er e2 kk⟩
  · cases h
end
def sAsg (t : MG) (m : ME) : MS := fun ρ μ => exThen (m ρ μ) ρ fun s μ1 => match t s ρ μ1 with
  | some (ρ2, μ2) => some (.nx, ρ2, μ2)
  | none => none
section
variable {g : G} {X : Cx} {W : WX} {e : Expr} {m : ME} {pos pos' : Pos}
theorem ss_set {i : Nat} {x : Str} {fl : Bool} (hN : X.N.Nodup) (hi : X.N[i]? = some x) (hx : Loc X.env.scope x) (hf : X.fn x = true ∨ X.env.scope.names.lookup x = some .local) (hs : swapsWith e (some (.Name x pos')) pos.line X.env = pure false) (he : SE g X W e m) :
    SS g X W (.Assign [.Name x pos'] e pos) (sAsg (gNm i fl) m) := by
  refine ⟨fun F as ρ μ σ H D fl' ρ' μ' h sr er post => wS (ps_set hN hi hx pe_wp hs hf) ?_⟩
  refine he.st h sr er post fun s μ1 F1 as1 v H1 h1 x1 sr1 er1 ra1 => ?_
  obtain ⟨F2, as2, x2, sr2, rs2⟩ := own_ok fl sr1 ra1
  cases h1
  exact post F2 as2 _ H1 (x1.trans x2) sr2 ((er1.mono x2).set rs2)
theorem ss_asgT {tg : Expr} {sl : List Nat} {t : MG} (ht : SG g X tg sl t) (hs : swapsWithSole [tg] e pos.line X.env = pure false) (hw : swappedStores [tg] e X.env = pure none) (hst : notStar tg = true) (he : SE g X W e m) :
    SS g X W (.Assign [tg] e pos) (sAsg t m) := by
  refine ⟨fun F as ρ μ σ H D fl' ρ' μ' h sr er post => wS (ps_asg pe_wp pg_wp hs hw (by rw [assignEach_cons hst]; rfl)) ?_⟩
  refine he.st h sr er post fun s μ1 F1 as1 v H1 h1 x1 sr1 er1 ra1 => ?_
  split at h1
  · rename_i ρ2 μ2 h2
    cases h1
    exact ht.run F1 as1 ρ μ1 σ H1 s v _ ρ' μ' h2 sr1 er1 ra1 fun F' as' σ' H' x' sr' er' _ => post F' as' σ' H' (x1.trans x') sr' er'
  · cases h1
end
/-- several values, each made its name's own -/
def mOwns : List (Bool × ME) → MA
  | [] => fun _ μ => some (.ok [], μ)
  | (fl, m) :: ms => fun ρ μ => andThen (m ρ μ) fun s μ1 => andThen (mOwns ms ρ (own fl s μ1).2) fun ss μ2 => some (.ok ((own fl s μ1).1 :: ss), μ2)
section
variable {g : G} {X : Cx} {W : WX} {e : Expr} {es : List Expr} {m : ME} {fl : Bool} {ms : List (Bool × ME)}
theorem so_nil : SA g X W [] (mOwns []) := sa_nil
theorem so_cons (hn : notStar e = true) (h1 : SE g X W e m) (h2 : SA g X W es (mOwns ms)) : SA g X W (e :: es) (mOwns ((fl, m) :: ms)) := by
  refine ⟨fun F as ρ μ σ H Q r μ' h sr er post => wA (pa_cons pe_wp pa_wp (starEach_cons hn)) ?_⟩
  refine h1.then_ (show andThen _ _ = some (r, μ') from h) sr er (fun x e => by subst e; exact post) fun s1 μ1 F1 as1 v1 H1 h3 x1 sr1 er1 ra1 => ?_
  obtain ⟨F1', as1', x1', sr1', rs1⟩ := own_ok fl sr1 ra1
  refine h2.then_ h3 sr1' (er1.mono x1') (fun x e => by subst e; exact PErr.ext (x1.trans x1') post) fun ss μ2 F2 as2 vs H2 h4 x2 sr2 er2 rs2 => ?_
  cases h4
  exact post F2 as2 _ H2 ((x1.trans x1').trans x2) sr2 (.cons (rs1.mono x2) rs2)
end
def sPar2 (i j : Nat) (ms : List (Bool × ME)) : MS := fun ρ μ => exThen (mOwns ms ρ μ) ρ fun ss μ1 => match ss with
  | [s, t] => some (.nx, (ρ.set i (some s)).set j (some t), μ1)
  | _ => none
def sPar3 (i j l : Nat) (ms : List (Bool × ME)) : MS := fun ρ μ => exThen (mOwns ms ρ μ) ρ fun ss μ1 => match ss with
  | [s, t, u] => some (.nx, ((ρ.set i (some s)).set j (some t)).set l (some u), μ1)
  | _ => none
section
variable {g : G} {X : Cx} {W : WX} {F : Hp} {as : List Addr} {ρ ρ' : En} {μ μ' : Sto} {σ : L2.St} {H : Hp} {D : Ends} {fl : Fl}
theorem SA.st {es : List Expr} {m : MA} {Q : List V → Hp → Prop} {f : List S → Sto → Option (Fl × En × Sto)} (he : SA g X W es m) (h : exThen (m ρ μ) ρ f = some (fl, ρ', μ')) (sr : SR g F as μ H) (er : ER g F as ρ σ) (post : PostS g W F as D fl ρ' μ')
    (k : ∀ ss μ1 F1 as1 vs H1, f ss μ1 = some (fl, ρ', μ') → Ext F as F1 as1 → SR g F1 as1 μ1 H1 → ER g F1 as1 ρ σ → RSs g F1 as1 ss vs → Q vs H1) : wpA X es σ H Q := by
  rcases exThen_some h with ⟨x, h1, h2, h3⟩ | ⟨s, μ1, h1, h2⟩
  · dsimp only at h1 h2 h3
    subst h2 h3
    exact he.run F as ρ' μ σ H Q (.error x) μ' h1 sr er (post.err er)
  · exact he.run F as ρ μ σ H Q (.ok s) μ1 h1 sr er fun F' as' v H' e' r' q => k s μ1 F' as' v H' h2 e' r' (er.mono e') q
end
section
variable {g : G} {X : Cx} {W : WX}
theorem ss_par2 {i j : Nat} {x y : Str} {a b : Expr} {ms : List (Bool × ME)} {px py pt pos : Pos} {kt k2 pt2} (hc : X.calm = true) (hN : X.N.Nodup) (hi : X.N[i]? = some x) (hj : X.N[j]? = some y) (hij : i ≠ j)
    (hx : X.env.scope.names.lookup x = some .local) (hy : X.env.scope.names.lookup y = some .local) (ha : SA g X W [a, b] (mOwns ms))
    (hw : swappedStores [.Tuple [.Name x px, .Name y py] kt pt] (.Tuple [a, b] k2 pt2) X.env = pure (some [x, y])) :
    SS g X W (.Assign [.Tuple [.Name x px, .Name y py] kt pt] (.Tuple [a, b] k2 pt2) pos) (sPar2 i j ms) := by
  refine ⟨fun F as ρ μ σ H D fl ρ' μ' h sr er post => wS (ps_par hc hN hi hj hij hx hy pa_wp hw) ?_⟩
  refine ha.st h sr er post fun ss μ1 F1 as1 vs H1 h1 x1 sr1 er1 rs1 => ?_
  split at h1
  · rename_i s t
    cases h1
    cases rs1 with
    | cons r1 r2 => cases r2 with
      | cons r2 r3 =>
        cases r3
        exact ⟨_, _, rfl, post F1 as1 _ H1 x1 sr1 ((er1.set r1).set r2)⟩
  · cases h1
theorem ss_par3 {i j l : Nat} {x y z : Str} {a b c : Expr} {ms : List (Bool × ME)} {px py pz pt pos : Pos} {kt k2 pt2} (hc : X.calm = true) (hN : X.N.Nodup) (hi : X.N[i]? = some x) (hj : X.N[j]? = some y) (hl : X.N[l]? = some z) (hij : i ≠ j) (hil : i ≠ l) (hjl : j ≠ l)
    (hx : X.env.scope.names.lookup x = some .local) (hy : X.env.scope.names.lookup y = some .local) (hz : X.env.scope.names.lookup z = some .local) (ha : SA g X W [a, b, c] (mOwns ms))
    (hw : swappedStores [.Tuple [.Name x px, .Name y py, .Name z pz] kt pt] (.Tuple [a, b, c] k2 pt2) X.env = pure (some [x, y, z])) :
    SS g X W (.Assign [.Tuple [.Name x px, .Name y py, .Name z pz] kt pt] (.Tuple [a, b, c] k2 pt2) pos) (sPar3 i j l ms) := by
  refine ⟨fun F as ρ μ σ H D fl ρ' μ' h sr er post => wS (ps_par3 hc hN hi hj hl hij hil hjl hx hy hz pa_wp hw) ?_⟩
  refine ha.st h sr er post fun ss μ1 F1 as1 vs H1 h1 x1 sr1 er1 rs1 => ?_
  split at h1
  · rename_i s t u
    cases h1
    cases rs1 with
    | cons r1 r2 => cases r2 with
      | cons r2 r3 => cases r3 with
        | cons r3 r4 =>
          cases r4
          exact ⟨_, _, _, rfl, post F1 as1 _ H1 x1 sr1 (((er1.set r1).set r2).set r3)⟩
  · cases h1
end
def starB : Expr → Bool
  | .Starred _ _ => true
  | _ => false
def nameF (sc : Scope) (line : Nat) : Expr → Option Str
  | .Name id pos => if sc.names.lookup id == some .local && pos.line == line then some id else none
  | _ => none
/-- what swappedStores tells of two tuples written out, where it can be told -/
def swapOf (sc : Scope) (ts vs : List Expr) : Option (Option (List Str)) :=
  if (!(ts.length == 2 || ts.length == 3) || vs.length != ts.length) = true then some none else
  if vs.any starB = true then some none else
  if ((ts.filterMap (nameF sc ((ts.head?.map (·.pos.line)).getD 0))).length != ts.length || (ts.filterMap (nameF sc ((ts.head?.map (·.pos.line)).getD 0))).eraseDups.length != (ts.filterMap (nameF sc ((ts.head?.map (·.pos.line)).getD 0))).length) = true then some none else
  if vs.all (foldedForSure 8) = true then some none else
  if vs.all (constantsAlone 8) = true then none else some (some (ts.filterMap (nameF sc ((ts.head?.map (·.pos.line)).getD 0))))
theorem swapOf_ok {sc : Scope} {env : PySem.Env} {ts vs : List Expr} {kt : Nat} {pt : Pos} {k2 : Nat} {pt2 : Pos} {r : Option (List Str)} (hk : env.scope.kind = .function) (hs : env.scope = sc) (h : swapOf sc ts vs = some r) :
    swappedStores [.Tuple ts kt pt] (.Tuple vs k2 pt2) env = pure r := by
  have hb : env.blockKind = .function := by unfold PySem.Env.blockKind; rw [hk]; rfl
  have hkf : ∀ id, env.kindOf id = sc.names.lookup id := fun id => by rw [← hs]; rfl
  have eT : ∀ (f : Expr → Bool), (∀ x, f x = starB x) → vs.any f = vs.any starB := fun f hf => congrArg (fun f => List.any vs f) (funext hf)
  have eN : ∀ (f : Expr → Option Str), (∀ x, f x = nameF sc ((ts.head?.map (·.pos.line)).getD 0) x) → ts.filterMap f = ts.filterMap (nameF sc ((ts.head?.map (·.pos.line)).getD 0)) := fun f hf => congrArg (fun f => List.filterMap f ts) (funext hf)
  unfold swapOf at h
  unfold swappedStores
  simp only [hb, hkf, bne_self_eq_false, Bool.or_false]
  rw [eT _ (by intro x; cases x <;> rfl), eN _ (by intro x; cases x <;> rfl)]
  split at h
  · rename_i c1
    cases h
    rw [if_pos c1]
  · rename_i c1
    rw [if_neg c1]
    split at h
    · rename_i c2
      cases h
      rw [if_pos c2]
    · rename_i c2
      rw [if_neg c2]
      split at h
      · rename_i c3
        cases h
        rw [if_pos c3]
      · rename_i c3
        rw [if_neg c3]
        split at h
        · rename_i c4
          cases h
          rw [if_pos c4]
        · rename_i c4
          rw [if_neg c4]
          split at h
          · cases h
          · rename_i c5
            rw [if_neg c5]
            cases h
            rfl
end Sz
set_option Elab.async false
set_option linter.all false
set_option maxRecDepth 100000
set_option maxHeartbeats 4000000
namespace Sz
open PySem PySem.Spec L2
abbrev MI := En → Sto → Option (Except Ex (List D) × Sto)
abbrev wpI (X : Cx) (tg iter : Expr) : TI := fun σ H R => ∀ (pins : List (Addr × Obj)) (s : Shared), Inv X pins σ H s → wpAny (model X.prog X.w) X.A (eval iter X.env) (fun v s1 => wpAny (model X.prog X.w) X.A (pyIter v) (PIE X pins σ tg R) X.xe s1) X.xe s
theorem pi_wp {X : Cx} {tg iter : Expr} : PI X tg iter (wpI X tg iter) := ⟨fun pins s σ H R I h => h pins s I⟩
theorem wI {X : Cx} {tg iter : Expr} {t : TI} {σ : L2.St} {H : Hp} {R : It → Hp → Prop} (h : PI X tg iter t) (q : t σ H R) : wpI X tg iter σ H R := fun pins s I => h.run pins s σ H R I q
/-- the walk tells these things, one by one -/
def JOk (g : G) (J : It) (F0 : Hp) (ds : List D) : Prop := ∀ (F : Hp) (as : List Addr) (μ : Sto) (H : Hp), Same F0 F → SR g F as μ H → ∀ i : Nat, (i = ds.length → J.stop i H) ∧
  ∀ d, ds[i]? = some d → J.go i H ∧ ∀ x H', J.yld i H x H' → ∃ F', Ext F as F' as ∧ SR g F' as μ H' ∧ Rep g F' d x
def PostI (g : G) (W : WX) (F : Hp) (as : List Addr) (σ : L2.St) (R : It → Hp → Prop) : Except Ex (List D) → Sto → Prop
  | .ok ds, μ' => ∀ F' as' H' J, Ext F as F' as' → SR g F' as' μ' H' → JOk g J F' ds → R J H'
  | .error x, μ' => PErr g W F as σ x μ'
structure SI (g : G) (X : Cx) (W : WX) (tg iter : Expr) (m : MI) : Prop where
  run : ∀ (F : Hp) (as : List Addr) (ρ : En) (μ : Sto) (σ : L2.St) (H : Hp) (R : It → Hp → Prop) (r : Except Ex (List D)) (μ' : Sto), m ρ μ = some (r, μ') → SR g F as μ H → ER g F as ρ σ → PostI g W F as σ R r μ' → wpI X tg iter σ H R
section
variable {X : Cx} {pins : List (Addr × Obj)} {σ : L2.St} {H : Hp} {s : Shared} {tg : Expr} {R : It → Hp → Prop} {E : Value → Shared → Prop}
theorem iter_list {a : Addr} {xs : List V} (I1 : Inv X pins σ H s) (hq : SqL X.K H a xs) (q : R (Itl X.K a) H) : wpAny (model X.prog X.w) X.A (pyIter (.ref a)) (PIE X pins σ tg R) E s := by
  obtain ⟨its, rv, p, hz⟩ := I1.list hq
  refine wpAny_pyIter_list p.isList ?_
  refine ⟨s.heap.objs.size, [s.heap.objs.size], _, _, H, rfl, I1.kept (t' := s.toks) fun b o e => Heap.get?_push_of_some _ e, turn_list a _, ⟨_, Heap.get?_push_size _ rfl, rfl, rfl⟩, fun b hb => ?_, q⟩
  have e : b = s.heap.objs.size := by simpa using hb
  subst e
  exact I1.fpOk (Nat.le_refl _) (I1.hok.fresh (Nat.le_refl _))
theorem iter_tup {a : Addr} {xs : List V} (I1 : Inv X pins σ H s) (hq : SqT X.K H a xs) (q : R (Itt X.K a) H) : wpAny (model X.prog X.w) X.A (pyIter (.ref a)) (PIE X pins σ tg R) E s := by
  obtain ⟨its, rv, p, hz⟩ := I1.tuple hq
  refine wpAny_pyIter_tuple (show s.heap.IsTuple a its.toArray from p) ?_
  refine ⟨s.heap.objs.size, [s.heap.objs.size], _, _, H, rfl, I1.kept (t' := s.toks) fun b o e => Heap.get?_push_of_some _ e, turn_tuple a _, ⟨_, Heap.get?_push_size _ rfl, rfl, rfl⟩, fun b hb => ?_, q⟩
  have e : b = s.heap.objs.size := by simpa using hb
  subst e
  exact I1.fpOk (Nat.le_refl _) (I1.hok.fresh (Nat.le_refl _))
theorem iter_str {x : Str} {t : Tok} (I1 : Inv X pins σ H s) (q : R (Its x) H) : wpAny (model X.prog X.w) X.A (pyIter (.str x t)) (PIE X pins σ tg R) E s := by
  cases ha : x.cps.all (· < 128)
  · exact wpAny_pyIter_wide ha (pi_one (tk := s.toks) I1 _ (turn_str _ x t "str_iterator" (.inr rfl)) ⟨_, Heap.get?_push_size _ rfl, rfl, rfl⟩ q)
  · exact wpAny_pyIter_ascii ha (pi_one (tk := s.toks) I1 _ (turn_str _ x t "str_ascii_iterator" (.inl rfl)) ⟨_, Heap.get?_push_size _ rfl, rfl, rfl⟩ q)
end
section
variable {g : G} {F0 : Hp}
theorem jok_list {a : Addr} {xs : List V} {ds : List D} (h : F0 a = some (.lst xs)) (r : Reps g F0 ds xs) : JOk g (Itl g.K a) F0 ds := by
  intro F as μ H e sr i
  have hs : SqL g.K H a xs := SqL.of (sr.sub _ _ (e _ _ h))
  refine ⟨fun hi => ⟨xs, hs, by rw [r.length, hi]; exact Nat.le_refl _⟩, fun d hd => ?_⟩
  obtain ⟨v, h1, h2⟩ := r.get hd
  refine ⟨⟨xs, v, hs, h1⟩, fun x H' ⟨e1, e2⟩ => ?_⟩
  subst e1
  have := e2 xs hs
  rw [h1] at this
  cases this
  exact ⟨F, .refl, sr, h2.mono e⟩
theorem jok_tup {a : Addr} {xs : List V} {ds : List D} (h : SqT g.K F0 a xs) (r : Reps g F0 ds xs) : JOk g (Itt g.K a) F0 ds := by
  intro F as μ H e sr i
  have hs : SqT g.K H a xs := seqT_mono sr.sub (seqT_mono e h)
  refine ⟨fun hi => ⟨xs, hs, by rw [r.length, hi]; exact Nat.le_refl _⟩, fun d hd => ?_⟩
  obtain ⟨v, h1, h2⟩ := r.get hd
  refine ⟨⟨xs, v, hs, h1⟩, fun x H' ⟨e1, e2⟩ => ?_⟩
  subst e1
  have := e2 xs hs
  rw [h1] at this
  cases this
  exact ⟨F, .refl, sr, h2.mono e⟩
theorem jok_scr {a : Addr} {ns : List Int} (h : SqL g.K F0 a (ns.map V.int)) : JOk g (Itl g.K a) F0 (ns.map .int) := by
  intro F as μ H e sr i
  have hs : SqL g.K H a (ns.map V.int) := sr.sub.seq (e.seq h)
  refine ⟨fun hi => ⟨_, hs, by rw [hi, List.length_map, List.length_map]; exact Nat.le_refl _⟩, fun d hd => ?_⟩
  rw [List.getElem?_map] at hd
  obtain ⟨n, h1, rfl⟩ := Option.map_eq_some_iff.mp hd
  have h2 : (ns.map V.int)[i]? = some (.int n) := by rw [List.getElem?_map, h1]; rfl
  refine ⟨⟨_, _, hs, h2⟩, fun x H' ⟨e1, e2⟩ => ?_⟩
  subst e1
  have := e2 _ hs
  rw [h2] at this
  cases this
  exact ⟨F, .refl, sr, by unfold Rep; rfl⟩
theorem jok_str {x : Str} : JOk g (Its x) F0 (x.cps.toList.map fun c => .str ⟨#[c]⟩) := by
  intro F as μ H e sr i
  refine ⟨fun hi => by rw [hi, List.length_map]; show x.cps.size ≤ x.cps.toList.length; simp, fun d hd => ?_⟩
  rw [List.getElem?_map] at hd
  obtain ⟨c, h1, rfl⟩ := Option.map_eq_some_iff.mp hd
  have h2 : x.cps[i]? = some c := by simpa using h1
  refine ⟨(Array.getElem?_eq_some_iff.mp h2).1, fun y H' ⟨e1, c', e2, e3⟩ => ?_⟩
  subst e1 e3
  rw [h2] at e2
  cases e2
  exact ⟨F, .refl, sr, by unfold Rep; rfl⟩
def rangeD (lo : Int) (n : Nat) : List D := (List.range n).map fun (i : Nat) => .int (lo + i)
theorem jok_range {lo : Int} {n : Nat} : JOk g (Itr lo n) F0 (rangeD lo n) := by
  intro F as μ H e sr i
  unfold rangeD
  refine ⟨fun hi => by rw [hi, List.length_map, List.length_range]; exact Nat.le_refl _, fun d hd => ?_⟩
  rw [List.getElem?_map] at hd
  obtain ⟨k, h1, rfl⟩ := Option.map_eq_some_iff.mp hd
  obtain ⟨h2, h3⟩ := List.getElem?_eq_some_iff.mp h1
  rw [List.length_range] at h2
  rw [List.getElem_range] at h3
  subst h3
  refine ⟨h2, fun y H' ⟨e1, e2⟩ => ?_⟩
  subst e1 e2
  exact ⟨F, .refl, sr, by unfold Rep; rfl⟩
/-- enumerate's things -/
def enumD : Nat → List D → List D
  | _, [] => []
  | i, d :: ds => .tup [.int (i : Nat), d] :: enumD (i + 1) ds
theorem enumD_get : ∀ {ds : List D} {k i : Nat}, (enumD k ds)[i]? = (ds[i]?).map fun d => .tup [.int ((k + i : Nat) : Int), d]
  | [], k, i => by simp [enumD]
  | d :: ds, k, 0 => rfl
  | d :: ds, k, i + 1 => by
    rw [enumD, List.getElem?_cons_succ, List.getElem?_cons_succ, enumD_get]
    have : k + 1 + i = k + (i + 1) := by omega
    rw [this]
theorem enumD_len : ∀ {ds : List D} {k : Nat}, (enumD k ds).length = ds.length
  | [], _ => rfl
  | d :: ds, k => by rw [enumD, List.length_cons, List.length_cons, enumD_len]
theorem jok_enum {a : Addr} {xs : List V} {ds : List D} (h : F0 a = some (.lst xs)) (r : Reps g F0 ds xs) : JOk g (Ite g.K a) F0 (enumD 0 ds) := by
  intro F as μ H e sr i
  have hs : SqL g.K H a xs := SqL.of (sr.sub _ _ (e _ _ h))
  refine ⟨fun hi => ⟨xs, hs, by rw [r.length, hi, enumD_len]; exact Nat.le_refl _⟩, fun d hd => ?_⟩
  rw [enumD_get] at hd
  obtain ⟨d', h0, rfl⟩ := Option.map_eq_some_iff.mp hd
  obtain ⟨v, h1, h2⟩ := r.get h0
  refine ⟨⟨xs, v, hs, h1⟩, fun x H' ⟨T, x', e1, e2, e3, e4⟩ => ?_⟩
  subst e1 e3
  have := e4 xs hs
  rw [h1] at this
  cases this
  obtain ⟨sr', x', y'⟩ := sr.frozen (o := .tup [.int (i : Nat), v]) e2
  refine ⟨_, x', sr', ?_⟩
  unfold Rep
  refine ⟨T, _, rfl, SqT.of y', Reps.cons ?_ (Reps.cons ((h2.mono e).mono x'.1) Reps.nil)⟩
  unfold Rep
  rw [Nat.zero_add]
end
/-- the things of a value -/
def itemsOf : D → Option (List D)
  | .lst ds => some ds
  | .tup ds => some ds
  | .scr ns => some (ns.map .int)
  | .str x => some (x.cps.toList.map fun c => .str ⟨#[c]⟩)
  | _ => none
def finI (f : D → Option (List D)) (s : S) (μ : Sto) : Option (Except Ex (List D) × Sto) := match toD μ (rt s) with
  | some (d, μ2) => (match f d with
    | some ds => some (.ok ds, μ2)
    | none => none)
  | none => none
def iVal (m : ME) : MI := fun ρ μ => andThen (m ρ μ) (finI itemsOf)
def inR (i : Int) : Bool := decide (-(2 ^ 62) ≤ i) && decide (i < 2 ^ 62)
def iRange1 (a : ME) : MI := fun ρ μ => andThen (mArgs [a] ρ μ) fun ss μ1 => match vws μ1 ss with
  | some [.int j] => if inR j then some (.ok (rangeD 0 j.toNat), μ1) else none
  | _ => none
section
variable {g : G} {X : Cx} {W : WX} {tg e e2 : Expr} {m m2 : ME} {p pos : Pos}
theorem si_val (hg : g.K = X.K) (he : SE g X W e m) : SI g X W tg e (iVal m) := by
  refine ⟨fun F as ρ μ σ H R r μ' h sr er post pins s I => ?_⟩
  have key : wpE X e σ H fun x H1 => ∀ (s1 : Shared) (v : Value), Inv X pins σ H1 s1 → RelV x v → wpAny (model X.prog X.w) X.A (pyIter v) (PIE X pins σ tg R) X.xe s1 := by
    refine he.then_ (show andThen _ _ = some (r, μ') from h) sr er (fun x e => by subst e; exact post) fun s1 μ1 F1 as1 v H1 h1 x1 sr1 er1 ra1 => ?_
    obtain ⟨F2, x2, sr2, rs2⟩ := root_ok sr1 ra1
    unfold finI at h1
    split at h1
    · rename_i d μ2 hd
      obtain ⟨F3, x3, sr3, r3⟩ := toD_rs sr2 rs2 hd
      split at h1
      · rename_i ds hds
        cases h1
        have fin : ∀ J, JOk g J F3 ds → R J H1 := fun J j => post F3 as1 H1 J ((x1.trans x2).trans x3) sr3 j
        intro st u I1 ru
        unfold itemsOf at hds
        split at hds
        · cases hds
          unfold Rep at r3
          obtain ⟨a, vs, rfl, h3, h4⟩ := r3
          cases ru
          exact iter_list I1 (SqL.of (sr3.sub _ _ h3)) (by rw [← hg]; exact fin _ (jok_list h3 h4))
        · cases hds
          unfold Rep at r3
          obtain ⟨a, vs, rfl, h3, h4⟩ := r3
          cases ru
          exact iter_tup I1 (hg ▸ seqT_mono sr3.sub h3) (by rw [← hg]; exact fin _ (jok_tup h3 h4))
        · cases hds
          unfold Rep at r3
          obtain ⟨a, rfl, h3⟩ := r3
          cases ru
          exact iter_list I1 (hg ▸ sr3.sub.seq h3) (by rw [← hg]; exact fin _ (jok_scr h3))
        · cases hds
          unfold Rep at r3
          subst r3
          obtain ⟨t, rfl⟩ := ru
          exact iter_str I1 (fin _ jok_str)
        · cases hds
      · cases h1
    · cases h1
  exact thn (key pins s I) fun v s1 ⟨x, H1, I1, rx, q⟩ => q s1 v I1 rx
theorem si_range1 (hg : Gl X "range") (hm : X.mg "range" = none) (hn : notStar e = true) (ha : SE g X W e m) : SI g X W tg (.Call (.Name "range" p) [e] [] pos) (iRange1 m) := by
  refine ⟨fun F as ρ μ σ H R r μ' h sr er post => wI (pi_range1 hg hm pa_wp (by rw [starEach_cons hn]; rfl)) ?_⟩
  refine (sa_cons hn ha sa_nil).then_ (show andThen _ _ = some (r, μ') from h) sr er (fun x e => by subst e; exact post) fun ss μ1 F1 as1 vs H1 h1 x1 sr1 er1 rs1 => ?_
  split at h1
  · rename_i j hv
    split at h1
    · rename_i hz
      cases h1
      obtain ⟨v, rfl, h2⟩ := vrs1 (views_rs sr1 rs1 hv)
      cases vr_int h2
      unfold inR at hz
      rw [Bool.and_eq_true, decide_eq_true_eq, decide_eq_true_eq] at hz
      exact ⟨j, rfl, hz.1, hz.2, post F1 as1 H1 _ x1 sr1 jok_range⟩
    · cases h1
  · cases h1
end
def floop (t : MG) (b : MS) : List D → MS
  | [], ρ, μ => some (.nx, ρ, μ)
  | d :: ds, ρ, μ => match t (.val d) ρ μ with
    | none => none
    | some (ρ1, μ1) => match b ρ1 μ1 with
      | some (.nx, ρ2, μ2) => floop t b ds ρ2 μ2
      | some (.ct, ρ2, μ2) => floop t b ds ρ2 μ2
      | some (.bk, ρ2, μ2) => some (.nx, ρ2, μ2)
      | r => r
def sFor (i : MI) (t : MG) (b : MS) : MS := fun ρ μ => exThen (i ρ μ) ρ fun ds μ1 => floop t b ds ρ μ1
def notSet : Expr → Bool
  | .Set _ _ _ => false
  | _ => true
theorem notSet_ok {e : Expr} {env : PySem.Env} (h : notSet e = true) : ∀ x, foldedSetIterable e env x = pure x := by
  cases e <;> first | (exact fun _ => rfl) | (exact absurd (show false = true from h) Bool.false_ne_true)
section
variable {g : G} {X : Cx} {W : WX} {tg iter : Expr} {body : List Stmt} {mi : MI} {t : MG} {b : MS} {pos : Pos}
theorem ss_for (hp : PassesOwn (model X.prog X.w) X.A X.env X.xe) (hc : X.calm = true) (hi : SI g X W tg iter mi) {sl : List Nat} (hg : SG g X tg sl t) (hb : SB g X W body b) (hs : notSet iter = true) : SS g X W (.For tg iter body [] pos) (sFor mi t b) := by
  refine ⟨fun F as ρ μ σ H D fl ρ' μ' h sr er post => wS (ps_for hp hc pi_wp pg_wp pss_wp (notSet_ok hs)) ?_⟩
  show wpI X tg iter σ H _
  rcases exThen_some (show exThen _ _ _ = some (fl, ρ', μ') from h) with ⟨x, h1, h2, h3⟩ | ⟨ds, μ1, h1, h2⟩
  · dsimp only at h1 h2 h3
    subst h2 h3
    exact hi.run F as ρ' μ σ H _ (.error x) μ' h1 sr er (post.err er)
  · refine hi.run F as ρ μ σ H _ (.ok ds) μ1 h1 sr er fun F1 as1 H1 J x1 sr1 j => ?_
    refine ⟨fun i m σ' H' => m = ds.length - i ∧ i ≤ ds.length ∧ ∃ F' as' ρ2 μ2, floop t b (ds.drop i) ρ2 μ2 = some (fl, ρ', μ') ∧ Ext F1 as1 F' as' ∧ SR g F' as' μ2 H' ∧ ER g F' as' ρ2 σ',
      ⟨ds.length, rfl, Nat.zero_le _, F1, as1, ρ, μ1, h2, .refl, sr1, er.mono x1⟩, ?_⟩
    rintro i m σ' H' ⟨rfl, hi', F', as', ρ2, μ2, h3, x2, sr2, er2⟩
    obtain ⟨j1, j2⟩ := j F' as' μ2 H' x2.1 sr2 i
    by_cases hlt : i < ds.length
    · right
      obtain ⟨go, step⟩ := j2 ds[i] (by simp [hlt])
      rw [List.drop_eq_getElem_cons hlt] at h3
      unfold floop at h3
      cases q : t (.val ds[i]) ρ2 μ2 with
      | none => rw [q] at h3; cases h3
      | some z =>
        obtain ⟨ρ3, μ3⟩ := z
        rw [q] at h3
        refine ⟨go, fun σ4 H4 => ∃ F4 as4 ρ4 μ4, floop t b (ds.drop (i + 1)) ρ4 μ4 = some (fl, ρ', μ') ∧ Ext F1 as1 F4 as4 ∧ SR g F4 as4 μ4 H4 ∧ ER g F4 as4 ρ4 σ4, fun σ4 H4 hN => ⟨ds.length - (i + 1), by omega, rfl, hlt, hN⟩, fun x H5 y => ?_⟩
        obtain ⟨F5, x5, sr5, r5⟩ := step x H5 y
        refine hg.run F5 as' ρ2 μ2 σ' H5 (.val ds[i]) x _ ρ3 μ3 q sr5 (er2.mono x5) r5 fun F6 as6 σ6 H6 x6 sr6 er6 _ => ?_
        have xx : Ext F1 as1 F6 as6 := (x2.trans x5).trans x6
        cases q2 : b ρ3 μ3 with
        | none => simp only [q2] at h3; cases h3
        | some z =>
          obtain ⟨fl2, ρ4, μ4⟩ := z
          simp only [q2] at h3
          refine hb.run F6 as6 ρ3 μ3 σ6 H6 _ fl2 ρ4 μ4 q2 sr6 er6 ?_
          cases fl2 with
          | nx => exact fun F7 as7 σ7 H7 x7 sr7 er7 => ⟨F7, as7, ρ4, μ4, h3, xx.trans x7, sr7, er7⟩
          | ct => exact fun F7 as7 σ7 H7 x7 sr7 er7 => ⟨F7, as7, ρ4, μ4, h3, xx.trans x7, sr7, er7⟩
          | bk => cases h3; exact fun F7 as7 σ7 H7 x7 sr7 er7 => post F7 as7 σ7 H7 ((x1.trans xx).trans x7) sr7 er7
          | rt s => cases h3; exact fun F7 as7 v H7 x7 sr7 ra7 => post F7 as7 v H7 ((x1.trans xx).trans x7) sr7 ra7
          | ex x => cases h3; exact fun F7 as7 σ7 cls d H7 x7 sr7 er7 rx7 => post F7 as7 σ7 cls d H7 ((x1.trans xx).trans x7) sr7 er7 rx7
    · left
      have e : i = ds.length := by omega
      rw [e, List.drop_length] at h3
      cases h3
      exact ⟨j1 e, post F' as' σ' H' (x1.trans x2) sr2 er2⟩
end
end Sz
set_option Elab.async false
set_option linter.all false
set_option maxRecDepth 100000
set_option maxHeartbeats 4000000
namespace Sz
open PySem PySem.Spec L2
def wipeE (ρ : En) : List Nat → En
  | [] => ρ
  | v :: vs => (wipeE ρ vs).set v none
theorem wipeE_length (ρ : En) : ∀ vs : List Nat, (wipeE ρ vs).length = ρ.length
  | [] => rfl
  | v :: vs => by unfold wipeE; rw [List.length_set, wipeE_length ρ vs]
theorem wipeE_some {ρ : En} {i : Nat} {s : S} : ∀ {vs : List Nat}, (wipeE ρ vs)[i]? = some (some s) → ρ[i]? = some (some s) ∧ i ∉ vs
  | [], h => ⟨h, by simp⟩
  | v :: vs, h => by
    unfold wipeE at h
    by_cases hi : v = i
    · subst hi
      by_cases hv : v < (wipeE ρ vs).length
      · rw [List.getElem?_set_self hv] at h; cases h
      · rw [List.getElem?_eq_none (by simpa using hv)] at h; cases h
    · rw [List.getElem?_set_ne hi] at h
      obtain ⟨h1, h2⟩ := wipeE_some h
      exact ⟨h1, by simp only [List.mem_cons, not_or]; exact ⟨fun e => hi e.symm, h2⟩⟩
theorem ER.wipe {g : G} {F : Hp} {as : List Addr} {ρ : En} {σ : L2.St} (h : ER g F as ρ σ) (vs : List Nat) : ER g F as (wipeE ρ vs) (L2.wipe σ vs) := by
  refine ⟨by rw [wipeE_length, wipe_length]; exact h.len, fun i s q => ?_⟩
  obtain ⟨h1, h2⟩ := wipeE_some q
  obtain ⟨v, h3, h4⟩ := h.at_ i s h1
  exact ⟨v, by rw [wipe_out h2]; exact h3, h4⟩
/-- the element made is put behind the k-th cell's list -/
def cput (k : Nat) (s : S) (μ : Sto) : Option Sto := match toD μ (rt s) with
  | some (d, μ1) => (match μ1[k]? with
    | some (.lst acc) => if acc.length < sizeLine then some (μ1.set k (.lst (acc ++ [d]))) else none
    | _ => none)
  | none => none
def cloop (t : MG) (c : MT) (el : ME) (ρ : En) (k : Nat) : List D → Sto → Option Sto
  | [], μ => some μ
  | d :: ds, μ => match t (.val d) ρ μ with
    | none => none
    | some (ρ1, μ1) => match c ρ1 μ1 with
      | some (.ok true, μ2) => (match el ρ1 μ2 with
        | some (.ok s, μ3) => (match cput k s μ3 with
          | some μ4 => cloop t c el ρ k ds μ4
          | none => none)
        | _ => none)
      | some (.ok false, μ2) => cloop t c el ρ k ds μ2
      | _ => none
def finC (k : Nat) : Option Sto → Option R
  | some μ => (match μ[k]? with
    | some (.lst acc) => some (.ok (.fr acc), μ.take k)
    | _ => none)
  | none => none
def mComp (i : MI) (t : MG) (c : MT) (el : ME) (own : List Nat) : ME := fun ρ μ => andThen (i ρ μ) fun ds μ1 => finC μ1.length (cloop t c el (wipeE ρ own) μ1.length ds (μ1 ++ [.lst []]))
def tTrue : MT := fun _ μ => some (.ok true, μ)
/-- no exception is taken there -/
abbrev W0 : WX := fun _ _ _ _ => False
abbrev blkX (X : Cx) (scope : Scope) (s : Shared) (H : Hp) (C : Addr) (cl : List (Str × Addr)) (fp : List Addr) : Cx := X.blk s H scope (compEnvC scope cl C X.env) fp
/-- a clause's tests -/
inductive STs (g : G) (X : Cx) (scope : Scope) : List Expr → MT → Prop
  | nil : STs g X scope [] tTrue
  | one {e : Expr} {c : MT} (h : ∀ s H C cl fp, STe g (blkX X scope s H C cl fp) W0 e c) : STs g X scope [e] c
def ttOf (X : Cx) (scope : Scope) : List Expr → TT
  | [] => tYes
  | e :: _ => fun σ H Q => ∀ s H' C cl fp, wpT (blkX X scope s H' C cl fp) e σ H Q
section
variable {g : G} {X : Cx} {W : WX} {tg iter elt : Expr} {ifs : List Expr} {scope : Scope} {mi : MI} {t : MG} {c : MT} {el : ME} {pos : Pos} {ow : List (Str × Nat)} {sl : List Nat}
theorem comp_run {F : Hp} {as : List Addr} {ρ : En} {μ : Sto} {σ : L2.St} {H : Hp} {Q : VK} {r : Except Ex S} {μ' : Sto} (hi : SI g X W tg iter mi) (hg : ∀ s H C cl fp, SG g (blkX X scope s H C cl fp) tg sl t) (hsl : ∀ i ∈ sl, i ∈ ow.map (·.2))
    (ht : STs g X scope ifs c) (he : ∀ s H C cl fp, SE g (blkX X scope s H C cl fp) W0 elt el) (h : mComp mi t c el (ow.map (·.2)) ρ μ = some (r, μ')) (sr : SR g F as μ H) (er : ER g F as ρ σ) (post : PostE g W F as σ Q r μ') :
    tLc (wpI X tg iter) (fun v σ H Q => ∀ s H' C cl fp, wpG (blkX X scope s H' C cl fp) tg v σ H Q) (ttOf X scope ifs)
      (fun σ H Q => ∀ s H' C cl fp, wpE (blkX X scope s H' C cl fp) elt σ H Q) (ow.map (·.2)) σ H Q := by
  rcases andThen_some (show andThen _ _ = some (r, μ') from h) with ⟨x, h1, h2⟩ | ⟨ds, μ1, h1, h2⟩
  · dsimp only at h1 h2
    subst h2
    exact hi.run F as ρ μ σ H _ (.error x) μ' h1 sr er post
  refine hi.run F as ρ μ σ H _ (.ok ds) μ1 h1 sr er fun F1 as1 H1 J x1 sr1 j => ?_
  intro Dl hD
  have er1 := (er.mono x1).wipe (ow.map (·.2))
  cases hq : cloop t c el (wipeE ρ (ow.map (·.2))) μ1.length ds (μ1 ++ [.lst []]) with
  | none => rw [hq] at h2; cases h2
  | some μf =>
    rw [hq] at h2
    obtain ⟨sr2, f2, n2⟩ := sr1.loose (o := .lst []) hD
    obtain ⟨sr3, x3⟩ := sr2.push (c := .lst []) upd_same n2 ⟨f2, [], upd_same, Reps.nil⟩
    have hk0 : (as1 ++ [Dl])[μ1.length]? = some Dl := by rw [← sr1.len, List.getElem?_append_right (Nat.le_refl _), Nat.sub_self]; rfl
    refine ⟨fun i m H' => m = ds.length - i ∧ i ≤ ds.length ∧ ∃ F' as' μ2, cloop t c el (wipeE ρ (ow.map (·.2))) μ1.length (ds.drop i) μ2 = some μf ∧ Ext F1 (as1 ++ [Dl]) F' as' ∧ SR g F' as' μ2 H',
      ⟨ds.length, rfl, Nat.zero_le _, F1, as1 ++ [Dl], _, hq, .refl, sr3⟩, ?_⟩
    rintro i m H' ⟨rfl, hi', F', as', μ2, h3, x2, sr2⟩
    obtain ⟨j1, j2⟩ := j F' as' μ2 H' x2.1 sr2 i
    have hka : as'[μ1.length]? = some Dl := by
      obtain ⟨_, l, rfl⟩ := x2
      rw [List.getElem?_append_left (List.getElem?_eq_some_iff.mp hk0).1]
      exact hk0
    by_cases hlt : i < ds.length
    · right
      obtain ⟨go, step⟩ := j2 ds[i] (by simp [hlt])
      rw [List.drop_eq_getElem_cons hlt] at h3
      unfold cloop at h3
      cases q : t (.val ds[i]) (wipeE ρ (ow.map (·.2))) μ2 with
      | none => simp only [q] at h3; cases h3
      | some z =>
        obtain ⟨ρ3, μ3⟩ := z
        simp only [q] at h3
        refine ⟨go, fun H4 => ∃ F4 as4 μ4, cloop t c el (wipeE ρ (ow.map (·.2))) μ1.length (ds.drop (i + 1)) μ4 = some μf ∧ Ext F1 (as1 ++ [Dl]) F4 as4 ∧ SR g F4 as4 μ4 H4, fun H4 hN => ⟨ds.length - (i + 1), by omega, rfl, hlt, hN⟩, fun x H5 y => ?_⟩
        obtain ⟨F5, x5, sr5, r5⟩ := step x H5 y
        intro s H' C cl fp
        refine (hg s H' C cl fp).run F5 as' _ μ2 _ H5 (.val ds[i]) x _ ρ3 μ3 q sr5 (er1.mono (Ext.trans (show Ext F1 as1 F1 (as1 ++ [Dl]) from x3) (x2.trans x5))) r5 fun F6 as6 σ6 H6 x6 sr6 er6 w6 => ?_
        have xx : Ext F1 (as1 ++ [Dl]) F6 as6 := (x2.trans x5).trans x6
        have w7 : L2.wipe σ6 (ow.map (·.2)) = L2.wipe σ (ow.map (·.2)) := by
          rw [w6 _ hsl]
          apply List.ext_getElem?
          intro k
          by_cases hk : k ∈ ow.map (·.2)
          · rw [wipe_in hk, wipe_in hk, wipe_length]
          · rw [wipe_out hk]
        refine ⟨w7, ?_⟩
        -- the test, then the element
        have rest : ∀ (F7 : Hp) (as7 : List Addr) (μ7 : Sto) (H7 : Hp) (k : Bool), Ext F6 as6 F7 as7 → SR g F7 as7 μ7 H7 → c ρ3 μ3 = some (.ok k, μ7) →
            (if k = true then (∀ s H' C cl fp, wpE (blkX X scope s H' C cl fp) elt σ6 H7 fun y H4 => ∃ acc, H4 Dl = some (.lst acc) ∧ acc.length < sizeLine ∧ (fun H4 => ∃ F4 as4 μ4, cloop t c el (wipeE ρ (ow.map (·.2))) μ1.length (ds.drop (i + 1)) μ4 = some μf ∧ Ext F1 (as1 ++ [Dl]) F4 as4 ∧ SR g F4 as4 μ4 H4) (upd H4 Dl (.lst (acc ++ [y]))))
              else (fun H4 => ∃ F4 as4 μ4, cloop t c el (wipeE ρ (ow.map (·.2))) μ1.length (ds.drop (i + 1)) μ4 = some μf ∧ Ext F1 (as1 ++ [Dl]) F4 as4 ∧ SR g F4 as4 μ4 H4) H7) := by
          intro F7 as7 μ7 H7 k x7 sr7 hc
          rw [hc] at h3
          cases k with
          | false =>
            rw [if_neg Bool.false_ne_true]
            exact ⟨F7, as7, μ7, h3, xx.trans x7, sr7⟩
          | true =>
            rw [if_pos rfl]
            intro s H' C cl fp
            cases q2 : el ρ3 μ7 with
            | none => simp only [q2] at h3; cases h3
            | some z =>
              obtain ⟨r8, μ8⟩ := z
              cases r8 with
              | error _ => simp only [q2] at h3; cases h3
              | ok s8 =>
                simp only [q2] at h3
                refine (he s H' C cl fp).run F7 as7 ρ3 μ7 σ6 H7 _ (.ok s8) μ8 q2 sr7 (er6.mono x7) fun F8 as8 v8 H8 x8 sr8 ra8 => ?_
                cases q3 : cput μ1.length s8 μ8 with
                | none => simp only [q3] at h3; cases h3
                | some μ9 =>
                  simp only [q3] at h3
                  unfold cput at q3
                  split at q3
                  · rename_i d μa hd
                    obtain ⟨F8', x8', sr8', rs8⟩ := root_ok sr8 ra8
                    obtain ⟨F9, x9, sr9, r9⟩ := toD_rs sr8' rs8 hd
                    have xy : Ext F1 (as1 ++ [Dl]) F9 as8 := ((xx.trans x7).trans x8).trans (x8'.trans x9)
                    have hkb : as8[μ1.length]? = some Dl := by
                      obtain ⟨_, l, e⟩ := xy
                      rw [e, List.getElem?_append_left (List.getElem?_eq_some_iff.mp hk0).1]
                      exact hk0
                    split at q3
                    · rename_i acc hacc
                      split at q3
                      · rename_i hz
                        cases q3
                        obtain ⟨fa, vs, ha, rv⟩ := sr9.cells _ _ _ hkb hacc
                        refine ⟨vs, ha, by rw [rv.length]; exact hz, F9, as8, _, h3, xy, ?_⟩
                        exact sr9.write hkb fa ⟨fa, _, upd_same, rv.append (Reps.cons r9 Reps.nil)⟩
                      · cases q3
                    · cases q3
                  · cases q3
        cases ht with
        | nil => exact rest F6 as6 μ3 H6 true .refl sr6 rfl
        | one hte =>
          intro s H' C cl fp
          cases q2 : c ρ3 μ3 with
          | none => simp only [q2] at h3; cases h3
          | some z =>
            obtain ⟨r7, μ7⟩ := z
            cases r7 with
            | error _ => simp only [q2] at h3; cases h3
            | ok k => exact (hte s H' C cl fp).run F6 as6 ρ3 μ3 σ6 H6 _ (.ok k) μ7 q2 sr6 er6 fun F7 as7 H7 x7 sr7 => rest F7 as7 μ7 H7 k x7 sr7 q2
    · left
      have e : i = ds.length := by omega
      refine ⟨j1 e, ?_⟩
      rw [e, List.drop_length] at h3
      cases h3
      replace h2 : (match μf[μ1.length]? with | some (.lst acc) => some (Except.ok (S.fr acc), μf.take μ1.length) | _ => none) = some (r, μ') := h2
      split at h2
      · rename_i acc hacc
        cases h2
        obtain ⟨fa, vs, ha, rv⟩ := sr2.cells _ _ _ hka hacc
        have x9 : Ext F1 as1 F' as' := Ext.trans (show Ext F1 as1 F1 (as1 ++ [Dl]) from x3) x2
        refine post F' as1 _ H' (x1.trans ⟨x9.1, [], by rw [List.append_nil]⟩) (sr1.back x9 sr2) (ra_lst ha fa ?_ rv)
        intro hm
        exact n2 hm
      · cases h2
theorem comp_parts (hg : ∀ s H C cl fp, SG g (blkX X scope s H C cl fp) tg sl t) (ht : STs g X scope ifs c) :
    (∀ (s : Shared) (H : Hp) (C : Addr) (cl : List (Str × Addr)) (fp : List Addr), PG (X.blk s H scope (compEnvC scope cl C X.env) fp) tg (fun v σ H Q => ∀ s H' C cl fp, wpG (blkX X scope s H' C cl fp) tg v σ H Q)) ∧
    (∀ (s : Shared) (H : Hp) (C : Addr) (cl : List (Str × Addr)) (fp : List Addr), PTs (X.blk s H scope (compEnvC scope cl C X.env) fp) ifs (ttOf X scope ifs)) ∧
    (∀ (s : Shared) (H : Hp) (C : Addr) (cl : List (Str × Addr)) (fp : List Addr), PE (X.blk s H scope (compEnvC scope cl C X.env) fp) elt (fun σ H Q => ∀ s H' C cl fp, wpE (blkX X scope s H' C cl fp) elt σ H Q)) := by
  refine ⟨fun s H C cl fp => ⟨fun pins s' σ H' v u Q I r h => h s H C cl fp pins s' u I r⟩, ?_, fun s H C cl fp => ⟨fun pins s' σ H' Q I h => h s H C cl fp pins s' I⟩⟩
  cases ht with
  | nil => exact fun s H C cl fp => pts_nil
  | one _ => exact fun s H C cl fp => pts_one ⟨fun pins s' σ H' Q I h => h s H C cl fp pins s' I⟩
theorem se_comp (hc : X.calm = true) (hN : X.N.Nodup) (hi : SI g X W tg iter mi) (ok : BlkOk X.N X.env.scope scope ow) (hg : ∀ s H C cl fp, SG g (blkX X scope s H C cl fp) tg sl t) (hsl : ∀ i ∈ sl, i ∈ ow.map (·.2))
    (ht : STs g X scope ifs c) (he : ∀ s H C cl fp, SE g (blkX X scope s H C cl fp) W0 elt el) (hs : notSet iter = true) : SE g X W (.ListComp elt [⟨tg, iter, ifs, 0⟩] scope pos) (mComp mi t c el (ow.map (·.2))) := by
  obtain ⟨p1, p2, p3⟩ := comp_parts (elt := elt) hg ht
  exact ⟨fun F as ρ μ σ H Q r μ' h sr er post => wE (pe_lc hc hN pi_wp ok p1 p2 p3 (notSet_ok hs)) (comp_run hi hg hsl ht he h sr er post)⟩
end
def gSubM (o i : ME) : MG := fun s ρ μ => match toD μ (rt s) with
  | some (d, μ1) => (match o ρ μ1 with
    | some (.ok so, μ2) => (match i ρ μ2 with
      | some (.ok si, μ3) => (match rt so, vw μ3 si with
        | .cell k, some (.int j) => (match μ3[k]? with
          | some (.lst ds) => (match ixN ds.length j with
            | some p => some (ρ, μ3.set k (.lst (ds.set p d)))
            | none => none)
          | some (.pot j0 ds) => (match ixN (ds.length + 1) j with
            | some (p + 1) => some (ρ, μ3.set k (.pot j0 (ds.set p d)))
            | _ => none)
          | _ => none)
        | _, _ => none)
      | _ => none)
    | _ => none)
  | none => none
section
variable {g : G} {X : Cx} {W : WX} {o i : Expr} {mo mi : ME} {pos : Pos}
theorem sub_asg {o i : Expr} {pos : Pos} {env : PySem.Env} (hn : notSlice i = true) (v : Value) : assign (.Subscript o i pos) env v = (do
      let ov ← holding [v] (eval o env)
      let iv ← holding [v, ov] (eval i env)
      standAt pos
      holding [v, ov, iv] (setItem ov iv v)
      release [v, ov, iv] []) := by
  cases i <;> first | rfl | (unfold notSlice at hn; cases hn)
theorem sg_sub (hn : notSlice i = true) (ho : SE g X W o mo) (hi : SE g X W i mi) : SG g X (.Subscript o i pos) [] (gSubM mo mi) := by
  refine ⟨fun F as ρ μ σ H s v Q ρ' μ' h sr er ra k pins st u I ru => ?_⟩
  refine (pg_sub pe_wp pe_wp set_list (sub_asg hn)).run pins st σ H v u Q I ru ?_
  obtain ⟨F0, x0, sr0, rs0⟩ := root_ok sr ra
  unfold gSubM at h
  split at h
  · rename_i d μ1 hd
    obtain ⟨F1, x1, sr1, r1⟩ := toD_rs sr0 rs0 hd
    split at h
    · rename_i so μ2 h2
      refine ho.run F1 as ρ μ1 σ H _ (.ok so) μ2 h2 sr1 ((er.mono x0).mono x1) fun F2 as2 v2 H2 x2 sr2 ra2 => ?_
      obtain ⟨F2', x2', sr2', rs2⟩ := root_ok sr2 ra2
      have xx := ((x0.trans x1).trans x2).trans x2'
      split at h
      · rename_i si μ3 h3
        refine hi.run F2' as2 ρ μ2 σ H2 _ (.ok si) μ3 h3 sr2' (er.mono xx) fun F3 as3 v3 H3 x3 sr3 ra3 => ?_
        split at h
        · rename_i kk j hk hj
          have rk := rs2.mono x3
          rw [hk] at rk
          obtain ⟨a, ha, rfl⟩ := (show ∃ a, as3[kk]? = some a ∧ v2 = .ref a from rk)
          cases vr_int (view_ra sr3 ra3 hj)
          split at h
          · rename_i ds hds
            split at h
            · rename_i p hp
              cases h
              obtain ⟨fa, vs, hv, rv⟩ := sr3.cells _ _ _ ha hds
              refine ⟨a, vs, j, p, rfl, rfl, hv, by rw [rv.length]; exact hp, ?_⟩
              have rd : Rep g F3 d v := ((r1.mono x2.1).mono x2'.1).mono x3.1
              exact k F3 as3 σ _ (xx.trans x3) (sr3.write ha fa ⟨fa, _, upd_same, Reps.set rd p rv⟩) (er.mono (xx.trans x3)) fun _ _ => rfl
            · cases h
          · rename_i j0 ds hds
            split at h
            · rename_i p hp
              cases h
              obtain ⟨fa, b, us, hb, hv, rv⟩ := sr3.cells _ _ _ ha hds
              refine ⟨a, .ref b :: us, j, p + 1, rfl, rfl, hv, by rw [List.length_cons, rv.length]; exact hp, ?_⟩
              have rd : Rep g F3 d v := ((r1.mono x2.1).mono x2'.1).mono x3.1
              exact k F3 as3 σ _ (xx.trans x3) (sr3.write ha fa ⟨fa, b, us.set p v, hb, upd_same, Reps.set rd p rv⟩) (er.mono (xx.trans x3)) fun _ _ => rfl
            · cases h
          · cases h
        · cases h
      · cases h
    · cases h
  · cases h
end
theorem swaps_attr {e o : Expr} {f : Str} {p : Pos} {l : Nat} {env : PySem.Env} : swapsWith e (some (.Attribute o f p)) l env = pure false := by
  cases e <;> rfl
/-- an own exception class without __init__, as the head has it -/
structure XcF (g : G) (K : PySem.W.Frag) (c : Nat) : Prop where
  ok : ∃ (B newId initId : String) (bmB : List Value), ExcBaseFacts B newId initId bmB ∧ PySem.W.excIn K (g.cad c) bmB newId = true
  kp : PySem.W.keepIn K (.ref (g.cad c)) = true
  b : PySem.W.subIn K (.ref (g.cad c)) (.type "BaseException") = some true
  t : PySem.W.typeIn K (.ref (g.cad c)) = some (.type "type")
end Sz
set_option Elab.async false
set_option linter.all false
set_option maxRecDepth 100000
set_option maxHeartbeats 4000000
namespace Sz
open PySem PySem.Spec L2
/-- the module as the head has it: names that stand for nothing of its own, names of defs and classes -/
structure Tb (g : G) (mg : Str → Option Value) (frees globs : List Str) : Prop where
  fr : ∀ x, frees.contains x = true → mg x = none
  gl : ∀ x, globs.contains x = true → mg x = some (.ref (He.ga g.K x)) ∧ PySem.W.keepIn g.K (.ref (He.ga g.K x)) = true
structure Ct (g : G) (P : Program) (w : World) (mg : Str → Option Value) (base : Heap) (k : Nat) (N : List Str) (sc : Scope) (own cm gb : Bool) (X : Cx) (W : WX) : Prop where
  hP : X.prog = P
  hw : X.w = w
  hK : X.K = g.K
  hmg : X.mg = mg
  hb : X.base = base
  hN : X.N = N
  nd : N.Nodup
  kd : sc.kind = .function
  hsc : X.env.scope = sc
  calm : cm = true → X.calm = true
  gd : gb = true → X.A.guards = some []
  room : cm = true → Room k X.A
  hu : X.A.units + 200 < cLine
  stk : own = true → X.stack = X.env :: X.outer
  frm : own = true → X.env.frame = some X.env.locals
  tk : Takes X W
  fn : own = true → ∀ x, X.fn x = true
  po : own = true → cm = true → PassesOwn (model X.prog X.w) X.A X.env X.xe
  ex : own = true → X.ex = []
def visB (sc : Scope) (x : Str) : Bool := match sc.names.lookup x with
  | some .local => true
  | some .cell => true
  | some .free => true
  | _ => false
def varB (N : List Str) (sc : Scope) (i : Nat) (x : Str) : Bool := (match N[i]? with
  | some y => y == x
  | none => false) && (visB sc x && (!(x == ("__debug__" : Str)) && !(x == ("__classdict__" : Str))))
def setB (N : List Str) (sc : Scope) (own : Bool) (i : Nat) (x : Str) : Bool := (match N[i]? with
  | some y => y == x
  | none => false) && (match sc.names.lookup x with
  | some .local => true
  | some .cell => own
  | _ => false)
def locB (N : List Str) (sc : Scope) (i : Nat) (x : Str) : Bool := (match N[i]? with
  | some y => y == x
  | none => false) && (match sc.names.lookup x with
  | some .local => true
  | _ => false)
def glB (sc : Scope) (x : Str) : Bool := (match sc.names.lookup x with
  | some .globalImplicit => true
  | _ => false) && (!(x == ("__debug__" : Str)) && !(x == ("__name__" : Str)))
section
variable {g : G} {P : Program} {w : World} {mg : Str → Option Value} {base : Heap} {k : Nat} {N : List Str} {sc : Scope} {own cm gb : Bool} {X : Cx} {W : WX} {i : Nat} {x : Str}
theorem at_of {N : List Str} {i : Nat} {x : Str} (h : (match N[i]? with
  | some y => y == x
  | none => false) = true) : N[i]? = some x := by
  split at h
  · rename_i y e
    rw [e, beq_iff_eq.mp h]
  · cases h
theorem Ct.K (c : Ct g P w mg base k N sc own cm gb X W) : g.K = X.K := c.hK.symm
theorem Ct.nd' (c : Ct g P w mg base k N sc own cm gb X W) : X.N.Nodup := by rw [c.hN]; exact c.nd
theorem Ct.kd' (c : Ct g P w mg base k N sc own cm gb X W) : X.env.scope.kind = .function := by rw [c.hsc]; exact c.kd
theorem Ct.at (c : Ct g P w mg base k N sc own cm gb X W) (h : (match N[i]? with
  | some y => y == x
  | none => false) = true) : X.N[i]? = some x := by rw [c.hN]; exact at_of h
theorem Ct.var {pos : Pos} (c : Ct g P w mg base k N sc own cm gb X W) (h : varB N sc i x = true) : SE g X W (.Name x pos) (mVar i) := by
  unfold varB at h
  simp only [Bool.and_eq_true, Bool.not_eq_true'] at h
  obtain ⟨h1, h2, h3, h4⟩ := h
  refine se_var (c.at h1) ?_ h3 h4
  unfold Vis
  rw [c.hsc]
  unfold visB at h2
  split at h2
  · rename_i e; exact .inl e
  · rename_i e; exact .inr (.inl e)
  · rename_i e; exact .inr (.inr e)
  · cases h2
theorem Ct.locs (c : Ct g P w mg base k N sc own cm gb X W) (h : setB N sc own i x = true) : X.N[i]? = some x ∧ L2.Loc X.env.scope x ∧ (X.fn x = true ∨ X.env.scope.names.lookup x = some .local) := by
  unfold setB at h
  rw [Bool.and_eq_true] at h
  refine ⟨c.at h.1, ?_⟩
  have h2 := h.2
  unfold L2.Loc
  rw [c.hsc]
  split at h2
  · rename_i e
    exact ⟨.inl e, .inr e⟩
  · rename_i e
    exact ⟨.inr e, .inl (c.fn h2 x)⟩
  · cases h2
theorem Ct.loc1 (c : Ct g P w mg base k N sc own cm gb X W) (h : locB N sc i x = true) : X.N[i]? = some x ∧ X.env.scope.names.lookup x = some .local := by
  unfold locB at h
  rw [Bool.and_eq_true] at h
  refine ⟨c.at h.1, ?_⟩
  have h2 := h.2
  rw [c.hsc]
  split at h2
  · assumption
  · cases h2
theorem Ct.gl (c : Ct g P w mg base k N sc own cm gb X W) (h : glB sc x = true) : Gl X x ∧ (x == ("__debug__" : Str)) = false ∧ x ≠ "__name__" := by
  unfold glB at h
  simp only [Bool.and_eq_true, Bool.not_eq_true'] at h
  obtain ⟨h1, h2, h3⟩ := h
  refine ⟨?_, h2, fun e => by rw [e] at h3; cases h3⟩
  show X.env.scope.names.lookup x = _
  rw [c.hsc]
  split at h1
  · assumption
  · cases h1
variable {frees globs : List Str}
/-- a builtin's call -/
theorem Ct.callB {id : String} {op : List D → Option S} {e : Expr} {es : List Expr} {p pos : Pos} {ms : List ME} (c : Ct g P w mg base k N sc own cm gb X W) (T : Tb g mg frees globs) (ho : CallOk g X (.builtin id) op) (hg : glB sc x = true) (hf : frees.contains x = true)
    (hv : bootBuiltins x = some (.builtin id)) (hst : (e :: es).all notStar = true) (ha : SA g X W (e :: es) (mArgs ms)) : SE g X W (.Call (.Name x p) (e :: es) [] pos) (mCallB op ms) :=
  se_callB ho (c.gl hg).1 (by rw [c.hmg]; exact T.fr x hf) hv (c.gl hg).2.2 (c.gl hg).2.1 hst ha
theorem Ct.callTy {id : String} {op : List D → Option S} {e : Expr} {es : List Expr} {p pos : Pos} {ms : List ME} (c : Ct g P w mg base k N sc own cm gb X W) (T : Tb g mg frees globs) (ho : CallOk g X (.type id) op) (hg : glB sc x = true) (hf : frees.contains x = true)
    (hv : bootBuiltins x = some (.type id)) (hst : (e :: es).all notStar = true) (ha : SA g X W (e :: es) (mArgs ms)) : SE g X W (.Call (.Name x p) (e :: es) [] pos) (mCallB op ms) :=
  se_callTy ho (c.gl hg).1 (by rw [c.hmg]; exact T.fr x hf) hv (c.gl hg).2.2 (c.gl hg).2.1 hst ha
/-- a builtin type's name -/
theorem Ct.tyName {id : String} {p : Pos} (c : Ct g P w mg base k N sc own cm gb X W) (T : Tb g mg frees globs) (hg : glB sc x = true) (hf : frees.contains x = true) (hv : bootBuiltins x = some (.type id)) : SE g X W (.Name x p) (mK (.ty id)) :=
  se_k (v := .ty id) (pe_bltn (c.gl hg).1 (by rw [c.hmg]; exact T.fr x hf) hv rfl (c.gl hg).2.2 (c.gl hg).2.1) fun F => by unfold Rep; rfl
theorem Ct.clsName {n : Nat} {p : Pos} (c : Ct g P w mg base k N sc own cm gb X W) (T : Tb g mg frees globs) (hg : glB sc x = true) (hf : globs.contains x = true) (hc : g.cad n = He.ga g.K x) : SE g X W (.Name x p) (mK (.cls n)) :=
  se_k (v := .ref (He.ga g.K x)) (pe_glob (c.gl hg).1 (by rw [c.hmg]; exact (T.gl x hf).1) rfl (c.gl hg).2.1) fun F => by unfold Rep; rw [hc]
structure FnC (gb : Bool) (g : G) (P : Program) (w : World) (mg : Str → Option Value) (base : Heap) (fi : FnI) (k : Nat) (f : Addr) (sh : List (Nat × List Str)) : Prop where
  ok : ∃ fd dvs, FnG gb P w g.K mg base (CX P w) k f fd fi.ps (spOf g fi.ps.length fi.sem) ∧ (∀ q ∈ sh, Bnd g.K fd fi.ps q.1 q.2 dvs) ∧ ∀ F, Reps g F fi.dfl dvs
theorem Ct.fnK {gc : Bool} {fi : FnI} {f : Addr} {n : Nat} {ks : List Str} {j : Nat} {sh : List (Nat × List Str)} (c : Ct g P w mg base k N sc own true gb X W) (F : FnC gc g P w mg base fi j f sh) (h : (sh.contains (n, ks)) = true) : FnK gc g X fi j f n ks := by
  obtain ⟨fd, dvs, h1, h2, h3⟩ := F.ok
  refine ⟨fd, dvs, ?_, ?_, h3⟩
  · rw [c.hP, c.hw, c.hK, c.hmg, c.hb]
    exact h1
  · rw [c.hK]
    exact h2 (n, ks) (List.contains_iff_mem.mp h)
/-- f(..) of an own def -/
theorem Ct.call {gc : Bool} {fi : FnI} {n j : Nat} {ks : List Str} {sh : List (Nat × List Str)} {p pos : Pos} {es : List Expr} {kws : List Keyword} {ms kms : List ME} (c : Ct g P w mg base k N sc own true gb X W) (T : Tb g mg frees globs) (F : FnC gc g P w mg base fi j (He.ga g.K x) sh) (hgd : leB gc gb = true)
    (hj : Nat.ble j k = true) (hs : sh.contains (n, ks) = true) (hg : glB sc x = true) (hf : globs.contains x = true) (hks : kwNames kws = some ks) (ha : SAs g X W es ms) (hkw : SK g X W kws (mArgs kms)) :
    SE g X W (.Call (.Name x p) es kws pos) (mCallF fi n ks ms kms) :=
  se_call (c.fnK F hs) ((c.room rfl).mono (Nat.le_of_ble_eq_true hj)) (fun e => c.gd (leB_ok hgd e)) c.tk (c.gl hg).1 (by rw [c.hmg]; exact (T.gl x hf).1) (by rw [c.hK]; exact (T.gl x hf).2) (c.gl hg).2.1 hks ha hkw
/-- C(..) -/
theorem Ct.make {gc : Bool} {mi : MkI} {n j : Nat} {ks : List Str} {sh : List (Nat × List Str)} {p pos : Pos} {es : List Expr} {kws : List Keyword} {ms kms : List ME} {f : Addr} (c : Ct g P w mg base k N sc own true gb X W) (T : Tb g mg frees globs) (F : FnC gc g P w mg base mi.fi j f sh) (hgd : leB gc gb = true)
    (M : Mk g.K (g.cad mi.c) f) (hfl : g.fl mi.c = mi.fl) (hc : g.cad mi.c = He.ga g.K x)
    (hj : Nat.ble (j + 1) k = true) (hs : sh.contains (n + 1, ks) = true) (hg : glB sc x = true) (hf : globs.contains x = true) (hks : kwNames kws = some ks) (ha : SAs g X W es ms) (hkw : SK g X W kws (mArgs kms)) :
    SE g X W (.Call (.Name x p) es kws pos) (mMake mi n ks ms kms) :=
  se_make (c.fnK F hs) ((c.room rfl).mono (Nat.le_of_ble_eq_true hj)) (fun e => c.gd (leB_ok hgd e)) c.tk (by rw [c.hK]; exact M) hfl (c.gl hg).1 (by rw [c.hmg, hc]; exact (T.gl x hf).1) (c.gl hg).2.1 hks ha hkw
/-- a name's store -/
theorem Ct.sgName {pos : Pos} {fl : Bool} (c : Ct g P w mg base k N sc own cm gb X W) (h : setB N sc own i x = true) : SG g X (.Name x pos) [i] (gNm i fl) :=
  sg_name c.nd' (c.locs h).1 (c.locs h).2.1 (c.locs h).2.2
theorem Ct.set {fl : Bool} {e : Expr} {m : ME} {pos pos' : Pos} (c : Ct g P w mg base k N sc own cm gb X W) (h : setB N sc own i x = true) (hc : notComp e = true) (he : SE g X W e m) : SS g X W (.Assign [.Name x pos'] e pos) (sAsg (gNm i fl) m) :=
  ss_set c.nd' (c.locs h).1 (c.locs h).2.1 (c.locs h).2.2 (swaps_no hc) he
theorem Ct.par2 {j : Nat} {y : Str} {a b : Expr} {ms : List (Bool × ME)} {px py pt pos : Pos} {kt k2 pt2} (c : Ct g P w mg base k N sc own true gb X W) (hx : locB N sc i x = true) (hy : locB N sc j y = true) (hij : Nat.beq i j = false)
    (hw : decide (swapOf sc [.Name x px, .Name y py] [a, b] = some (some [x, y])) = true) (ha : SA g X W [a, b] (mOwns ms)) :
    SS g X W (.Assign [.Tuple [.Name x px, .Name y py] kt pt] (.Tuple [a, b] k2 pt2) pos) (sPar2 i j ms) :=
  ss_par2 (c.calm rfl) c.nd' (c.loc1 hx).1 (c.loc1 hy).1 (Nat.ne_of_beq_eq_false hij) (c.loc1 hx).2 (c.loc1 hy).2 ha (swapOf_ok c.kd' c.hsc (of_decide_eq_true hw))
theorem Ct.par3 {j l : Nat} {y z : Str} {a b d : Expr} {ms : List (Bool × ME)} {px py pz pt pos : Pos} {kt k2 pt2} (c : Ct g P w mg base k N sc own true gb X W) (hx : locB N sc i x = true) (hy : locB N sc j y = true) (hz : locB N sc l z = true)
    (hij : Nat.beq i j = false) (hil : Nat.beq i l = false) (hjl : Nat.beq j l = false) (hw : decide (swapOf sc [.Name x px, .Name y py, .Name z pz] [a, b, d] = some (some [x, y, z])) = true) (ha : SA g X W [a, b, d] (mOwns ms)) :
    SS g X W (.Assign [.Tuple [.Name x px, .Name y py, .Name z pz] kt pt] (.Tuple [a, b, d] k2 pt2) pos) (sPar3 i j l ms) :=
  ss_par3 (c.calm rfl) c.nd' (c.loc1 hx).1 (c.loc1 hy).1 (c.loc1 hz).1 (Nat.ne_of_beq_eq_false hij) (Nat.ne_of_beq_eq_false hil) (Nat.ne_of_beq_eq_false hjl) (c.loc1 hx).2 (c.loc1 hy).2 (c.loc1 hz).2 ha (swapOf_ok c.kd' c.hsc (of_decide_eq_true hw))
/-- (a, b, ..) = value, no parts of a tuple written out -/
def plainRhs : Expr → Bool
  | .Tuple _ _ _ => false
  | e => notComp e
theorem Ct.subS {o i : Expr} {mo mi m : ME} {e : Expr} {pos pos' : Pos} (c : Ct g P w mg base k N sc own cm gb X W) (hn : notSlice i = true) (ho : SE g X W o mo) (hi : SE g X W i mi) (hp : plainRhs e = true) (he : SE g X W e m) : SS g X W (.Assign [.Subscript o i pos'] e pos) (sAsg (gSubM mo mi) m) := by
  refine ss_asgT (sg_sub hn ho hi) ?_ ?_ rfl he
  · cases e <;> first | rfl | (cases hp)
  · cases e <;> first | rfl | (cases hp)
/-- a comprehension's block -/
theorem Ct.blk (c : Ct g P w mg base k N sc own true gb X W) {scope : Scope} (hk : scope.kind = .function) (s : Shared) (H : Hp) (C : Addr) (cl : List (Str × Addr)) (fp : List Addr) : Ct g P w mg base k N (relS scope sc) false true gb (blkX X scope s H C cl fp) W0 := by
  refine ⟨c.hP, c.hw, c.hK, c.hmg, c.hb, c.hN, c.nd, hk, ?_, fun _ => c.calm rfl, c.gd, fun _ => c.room rfl, c.hu, (fun h => by cases h), (fun h => by cases h), ?_, (fun h => by cases h), (fun h => by cases h), (fun h => by cases h)⟩
  · rw [← c.hsc]
    rfl
  · rintro u s' ⟨_, _, _, _, _, _, _, _, _, _, _, _, _, _, _, _, w⟩
    exact w.elim
def kindF : Scope → Bool := fun s => match s.kind with
  | .function => true
  | _ => false
theorem kindF_ok {s : Scope} (h : kindF s = true) : s.kind = .function := by
  unfold kindF at h
  split at h
  · assumption
  · cases h
theorem Ct.comp0 {tg iter elt : Expr} {scope : Scope} {mi : MI} {t : MG} {el : ME} {pos : Pos} {ow : List (Str × Nat)} {sl : List Nat} (c : Ct g P w mg base k N sc own true gb X W) (hi : SI g X W tg iter mi) (ok : blkC N sc scope ow = true) (hk : kindF scope = true)
    (hsl : sl.all (fun i => (ow.map (·.2)).contains i) = true) (hs : notSet iter = true)
    (hg : ∀ X W, Ct g P w mg base k N (relS scope sc) false true gb X W → SG g X tg sl t) (he : ∀ X W, Ct g P w mg base k N (relS scope sc) false true gb X W → SE g X W elt el) :
    SE g X W (.ListComp elt [⟨tg, iter, [], 0⟩] scope pos) (mComp mi t tTrue el (ow.map (·.2))) := by
  have hk' := kindF_ok hk
  exact se_comp (c.calm rfl) c.nd' hi (by rw [c.hN, c.hsc]; exact blkOk_by ok) (fun s H C cl fp => hg _ _ (c.blk hk' s H C cl fp)) (fun i h => List.contains_iff_mem.mp (List.all_eq_true.mp hsl i h)) .nil (fun s H C cl fp => he _ _ (c.blk hk' s H C cl fp)) hs
end
section
variable {g : G} {P : Program} {w : World} {mg : Str → Option Value} {base : Heap} {k : Nat} {N : List Str} {sc : Scope} {own cm gb : Bool} {X : Cx} {W : WX} {i : Nat} {x : Str}
theorem Ct.hu64 (c : Ct g P w mg base k N sc own cm gb X W) : X.A.units + 64 < cLine := by have := c.hu; omega
end
/-- an object of two cells leaves a def: it comes behind its cells -/
def finB2 (n : Nat) (μ : Sto) (c : Nat) (f1 f2 : Str) (i j : Nat) : Option R := match μ[i]?, μ[j]? with
  | some (.dct kvs), some (.lst ds) => if n ≤ i ∧ n ≤ j ∧ i ≠ j then some (.ok (.cell (n + 2)), μ.take n ++ [.dct kvs, .lst ds, .bk c [(f1, n), (f2, n + 1)]]) else none
  | _, _ => none
def finR (n : Nat) (μ : Sto) : S → Option R
  | .cell k => if k < n then some (.ok (.cell k), μ.take n) else (match μ[k]? with
    | some (.lst ds) => some (.ok (.fr ds), μ.take n)
    | some (.frz d) => some (.ok (.val d), μ.take n)
    | some (.bk c [(f1, i), (f2, j)]) => finB2 n μ c f1 f2 i j
    | _ => none)
  | .pot (some j) _ ds => if j < n then none else (match μ[j]? with
    | some (.lst is) => some (.ok (.pot none is ds), μ.take n)
    | _ => none)
  | s => some (.ok s, μ.take n)
def finF (n : Nat) : Option (Fl × En × Sto) → Option R
  | some (.nx, _, μ') => some (.ok (.val .non), μ'.take n)
  | some (.rt s, _, μ') => finR n μ' s
  | some (.ex x, _, μ') => some (.error x, μ'.take n)
  | _ => none
def fnSem (nN : Nat) (body : MS) : List S → Sto → Option R := fun ss μ => finF μ.length (body (ss.map some ++ List.replicate (nN - ss.length) none) μ)
section
variable {gb : Bool} {g : G} {P : Program} {w : World} {mg : Str → Option Value} {base : Heap} {k : Nat} {N ps : List Str} {x qual : Str} {params : Arguments} {body : List Stmt} {scope : Scope} {dvs : List V} {kws : List (Str × V)} {f : Addr} {fd : FuncData} {code : MS}
theorem rss_at {F : Hp} {as : List Addr} {ss : List S} {vs : List V} {i : Nat} {s : S} (r : RSs g F as ss vs) (h : ss[i]? = some s) : ∃ v, vs[i]? = some v ∧ RS g F as s v := paired_get r h
theorem er_start {F : Hp} {as : List Addr} {ss : List S} {vs : List V} (r : RSs g F as ss vs) : ER g F as (ss.map some ++ List.replicate (N.length - ss.length) none) (L2.start N vs) := by
  have hl := Paired.length r
  refine ⟨?_, fun i s h => ?_⟩
  · unfold L2.start
    rw [List.length_append, List.length_append, List.length_map, List.length_map, List.length_replicate, List.length_replicate, hl]
    exact Nat.le_refl _
  · by_cases hi : i < ss.length
    · rw [List.getElem?_append_left (by rw [List.length_map]; exact hi), List.getElem?_map] at h
      cases e : ss[i]? with
      | none => rw [e] at h; cases h
      | some s' =>
        rw [e] at h
        cases h
        obtain ⟨v, e1, e2⟩ := rss_at r e
        refine ⟨v, ?_, e2⟩
        unfold L2.start
        rw [List.getElem?_append_left (by rw [List.length_map, ← hl]; exact hi), List.getElem?_map, e1]
        rfl
    · rw [List.getElem?_append_right (by rw [List.length_map]; omega)] at h
      have := List.mem_of_getElem? h
      rw [List.mem_replicate] at this
      exact absurd this.2 (by simp)
theorem ext_back {F F' : Hp} {as as' : List Addr} (x : Ext F as F' as') : Ext F as F' as := ⟨x.1, [], by rw [List.append_nil]⟩
/-- what is known of the code object of the def at f -/
def CodeAt (K : PySem.W.Frag) (f : Addr) (qual : Str) (cdv : Value) : Prop := ∃ (oc : Value) (od : Option Addr) (fd : FuncData) (sl : Array (Option Value)), K.lookup f = some ⟨oc, od, .func fd, sl⟩ ∧ fd.code = cdv ∧ PySem.W.codeIn K cdv qual = true
/-- a def's promise from its body -/
theorem by_body {P : Program} {w : World} {K : PySem.W.Frag} {mg : Str → Option Value} {base : Heap} {x qual : Str} {params : Arguments} {body : List Stmt} {scope : Scope} {dvs : List V} {kws : List (Str × V)} {f : Addr} {fd : FuncData} {gb : Bool} {cx : CXT} {N ps : List Str} {k : Nat} {sp : Sp}
    (F : FunD K x qual params body scope dvs kws f fd) (S : FnScope N ps scope) (wide : ∀ vs H Q E, sp vs H Q E → vs.length = ps.length)
    (run : ∀ (cdv : Value), CodeAt K f qual cdv → ∀ (A : Around) (outer : List Env) (s : Shared) (H : Hp) (vs : List V) (Q : VK) (E : XK), Room k (A.deeper (PyProof.Rows.envOfC qual scope s.heap.objs.size f cdv)) → (gb = true → A.guards = some []) → sp vs H Q E →
      ∃ t, PSs (cxOf cx P w K mg base N qual scope f cdv A outer s H E) body t ∧ t { nx := fun _ H' => Q .non H', rt := Q } (start N vs) H) : FnG gb P w K mg base cx (k + 1) f fd ps sp := by
  obtain ⟨tv, dk, dfv, kwv, dc, pmv, an, cdv, ctv, slots, rfl, found, codeAt, _, _⟩ := F.ex
  refine ⟨wide, fun A fr st H ar us vs Q E room gds en bd rv ask => ?_⟩
  have inHeap : K.In st.heap := en.mod.kin.keeps fun b o q => (en.bs b o q).1
  have noLim : st.heap.NoLimit := en.mod.nolimit.keeps fun b o q => (en.bs b o q).1
  have parKind : ∀ y ∈ ps.zip us, scope.names.lookup y.1 = some .local ∨
      (scope.names.lookup y.1 = some .cell ∧ ((cellsFrom (st.heap.objs.size + 1) scope.names []).lookup y.1).isSome = true) := by
    rintro ⟨n, v⟩ hy
    rcases S.par n (List.of_mem_zip hy).1 with q | q
    · exact Or.inl q
    · exact Or.inr ⟨q, PySem.W.cellsFrom_some _ _ _ (Or.inl q)⟩
  refine codeAny_call_function room.depth (inHeap _ _ found) rfl S.co S.gen rfl (PySem.W.codeRec_of inHeap codeAt) (bd _ _ _ _ ?_)
  refine wpAny_newFunctionEnv_cells S.kind parKind fun env eq s1 x => ?_
  subst eq
  refine ⟨noLim.keeps x.toInCall.keep, codeAny_func ?_⟩
  obtain ⟨t, steps, goal⟩ := run cdv ⟨_, _, _, _, found, rfl, codeAt⟩ A fr st H vs Q E (room.deeper _) gds ask
  have I0 := inv_start (CX := cx) (E := E) (cd := cdv) S room.hd en (wide _ _ _ _ ask) rv x
  refine wpAny_mono (steps.run [] s1 (start N vs) H _ I0 goal) (fun fl s' told => ?_) fun _ _ told => told
  cases fl with
  | next =>
    obtain ⟨σ', H', J, q⟩ := told
    exact ⟨V.non, H', J.os, J.bare, J.base, J.hok, (rfl : RelV V.non Value.none), q⟩
  | ret u =>
    obtain ⟨v, σ', H', J, rv', q⟩ := told
    exact ⟨v, H', J.os, J.bare, J.base, J.hok, rv', q⟩
  | brk => exact (told.elim fun _ z => z.elim fun _ z => z.2.elim)
  | cont => exact (told.elim fun _ z => z.elim fun _ z => z.2.elim)
theorem fn_okC (F : FunD g.K x qual params body scope dvs kws f fd) (S : FnScope N ps scope) (hb : ∀ X W, Ct g P w mg base k N scope true true gb X W → CodeAt g.K f qual X.env.code → X.env.qual = qual ++ ".<locals>." → SB g X W body code) :
    FnG gb P w g.K mg base (CX P w) (k + 1) f fd ps (spOf g ps.length (fnSem N.length code)) := by
  refine by_body F S (fun vs H Q E h => h.1) fun cdv hcd A outer s H vs Q E hr hgd hsp => ?_
  refine ⟨_, pss_wp, ?_⟩
  have c : Ct g P w mg base k N scope true true gb (cxOf (CX P w) P w g.K mg base N qual scope f cdv A outer s H E) (fun cls d _ H => E cls d H) :=
    ⟨rfl, rfl, rfl, rfl, rfl, rfl, S.nd, S.kind, rfl, fun _ => rfl, hgd, fun _ => hr, Nat.lt_of_le_of_lt (Nat.add_le_add_right (Nat.le_add_right _ _) 200) hr.un, fun _ => rfl, fun _ => rfl, takes_of rfl rfl rfl rfl, fun _ _ => rfl, fun _ _ => passes_of rfl, fun _ => rfl⟩
  obtain ⟨hl, F0, as, ss, μ, r, μ', sr, rs, hs, post⟩ := hsp
  have er := er_start (N := N) rs
  unfold fnSem at hs
  cases e : code (ss.map some ++ List.replicate (N.length - ss.length) none) μ with
  | none => rw [e] at hs; cases hs
  | some z =>
    obtain ⟨fl, ρ', μ2⟩ := z
    rw [e] at hs
    refine (hb _ _ c hcd rfl).run F0 as _ μ _ H _ fl ρ' μ2 e sr er ?_
    cases fl with
    | nx =>
      cases hs
      exact fun F' as' σ' H' x' sr' er' => post F' as .non H' (ext_back x') (sr.back x' sr') ra_non
    | bk => cases hs
    | ct => cases hs
    | ex x =>
      cases hs
      exact fun F' as' σ' cls d H' x' sr' er' rx => post F' as cls d H' (ext_back x') (sr.back x' sr') rx
    | rt s =>
      intro F' as' v H' x' sr' ra'
      have hs : finR μ.length μ2 s = some (r, μ') := hs
      have hb' := sr.back x' sr'
      cases s with
      | val d =>
        cases hs
        exact post F' as v H' (ext_back x') hb' ra'
      | fr ds =>
        cases hs
        obtain ⟨p, vs', h1, h2, h3, h4, h5⟩ := (show ∃ p vs, v = .ref p ∧ H' p = some (.lst vs) ∧ F' p = none ∧ p ∉ as' ∧ Reps g F' ds vs from ra')
        refine post F' as v H' (ext_back x') hb' ⟨p, vs', h1, h2, h3, fun hm => h4 ?_, h5⟩
        obtain ⟨_, l, rfl⟩ := x'
        exact List.mem_append_left _ hm
      | cell j =>
        obtain ⟨a, ha, rfl⟩ := (show ∃ a, as'[j]? = some a ∧ v = .ref a from ra')
        unfold finR at hs
        dsimp only at hs
        by_cases hj : j < μ.length
        · rw [if_pos hj] at hs
          cases hs
          refine post F' as _ H' (ext_back x') hb' ⟨a, ?_, rfl⟩
          obtain ⟨_, l, rfl⟩ := x'
          rw [List.getElem?_append_left (by rw [sr.len]; exact hj)] at ha
          exact ha
        · rw [if_neg hj] at hs
          split at hs
          · rename_i ds hds
            cases hs
            obtain ⟨fa, vs', hv, rv⟩ := sr'.cells _ _ _ ha hds
            refine post F' as _ H' (ext_back x') hb' (ra_lst hv fa (fun hm => ?_) rv)
            obtain ⟨i, hi⟩ := List.getElem?_of_mem hm
            have hil : i < as.length := (List.getElem?_eq_some_iff.mp hi).1
            have hi' : as'[i]? = some a := by
              obtain ⟨_, l, rfl⟩ := x'
              rw [List.getElem?_append_left hil]
              exact hi
            have := nd_at sr'.nd hi' ha
            rw [sr.len] at hil
            omega
          · rename_i d hd
            cases hs
            exact post F' as _ H' (ext_back x') hb' (sr'.cells _ _ _ ha hd)
          · rename_i c f1 i f2 j2 hbk
            have nin : ∀ {i : Nat} {b : Addr}, as'[i]? = some b → μ.length ≤ i → b ∉ as := fun {i b} h1 h2 hm => by
              obtain ⟨i', hi⟩ := List.getElem?_of_mem hm
              have hil : i' < as.length := (List.getElem?_eq_some_iff.mp hi).1
              have hi' : as'[i']? = some b := by
                obtain ⟨_, l, rfl⟩ := x'
                rw [List.getElem?_append_left hil]
                exact hi
              have := nd_at sr'.nd hi' h1
              rw [sr.len] at hil
              omega
            obtain ⟨fa, dx, bs, hins, hbl, hix⟩ := sr'.cells _ _ _ ha hbk
            unfold finB2 at hs
            split at hs
            · rename_i kvs ds h1 h2
              split at hs
              · rename_i hz
                cases hs
                obtain ⟨b1, g1, g2⟩ := hix 0 _ rfl
                obtain ⟨b2, g3, g4⟩ := hix 1 _ rfl
                have t1 : as'[i]? = some b1 := by
                  have hk := (List.getElem?_eq_some_iff.mp g2).1
                  rw [List.length_take] at hk
                  rw [List.getElem?_take_of_lt (by dsimp only at hk; omega)] at g2
                  exact g2
                have t2 : as'[j2]? = some b2 := by
                  have hk := (List.getElem?_eq_some_iff.mp g4).1
                  rw [List.length_take] at hk
                  rw [List.getElem?_take_of_lt (by dsimp only at hk; omega)] at g4
                  exact g4
                obtain ⟨fb1, ws, hw, kr⟩ := sr'.cells _ _ _ t1 h1
                obtain ⟨fb2, vs', hv, rv⟩ := sr'.cells _ _ _ t2 h2
                have hbs : bs = [b1, b2] := by
                  match bs, hbl, g1, g3 with
                  | [_, _], _, g1, g3 =>
                    simp only [List.getElem?_cons_zero, Option.some.injEq, List.getElem?_cons_succ] at g1 g3
                    rw [g1, g3]
                have n12 : b2 ≠ b1 := fun e => hz.2.2 (nd_at sr'.nd t1 (e ▸ t2))
                have ne1 : a ≠ b1 := fun e => by
                  rw [e, hw] at hins
                  cases hins
                have ne2 : a ≠ b2 := fun e => by
                  rw [e, hv] at hins
                  cases hins
                obtain ⟨s1, y1⟩ := hb'.push (c := .dct kvs) hw (nin t1 hz.1) ⟨fb1, ws, hw, kr⟩
                obtain ⟨s2, y2⟩ := s1.push (c := .lst ds) hv (fun hm => by
                  rcases List.mem_append.mp hm with e | e
                  · exact nin t2 hz.2.1 e
                  · exact n12 (by simpa using e)) ⟨fb2, vs', hv, rv⟩
                have hl0 : (List.take μ.length μ2).length = as.length := hb'.len.symm
                obtain ⟨s3, y3⟩ := s2.push (c := .bk c [(f1, μ.length), (f2, μ.length + 1)]) hins (fun hm => by
                  rcases List.mem_append.mp hm with e | e
                  · rcases List.mem_append.mp e with e | e
                    · exact nin ha (by omega) e
                    · exact ne1 (by simpa using e)
                  · exact ne2 (by simpa using e)) ⟨fa, dx, [b1, b2], by rw [← hbs]; exact hins, rfl, fun q r hq => by
                    match q, hq with
                    | 0, hq =>
                      cases hq
                      exact ⟨b1, rfl, by rw [← sr.len, List.append_assoc, List.getElem?_append_right (Nat.le_refl _), Nat.sub_self]; rfl⟩
                    | 1, hq =>
                      cases hq
                      exact ⟨b2, rfl, by rw [← sr.len, List.append_assoc, List.getElem?_append_right (Nat.le_succ _), show as.length.succ - as.length = 1 by omega]; rfl⟩
                    | q + 2, hq => simp at hq⟩
                have em : List.take μ.length μ2 ++ [C.dct kvs] ++ [C.lst ds] ++ [C.bk c [(f1, μ.length), (f2, μ.length + 1)]] = List.take μ.length μ2 ++ [C.dct kvs, C.lst ds, C.bk c [(f1, μ.length), (f2, μ.length + 1)]] := by
                  rw [List.append_assoc, List.append_assoc]; rfl
                rw [em] at s3
                refine post F' _ _ H' (((ext_back x').trans y1).trans (y2.trans y3)) s3 ⟨a, ?_, rfl⟩
                rw [List.append_assoc, List.append_assoc, ← sr.len, List.getElem?_append_right (by omega), Nat.add_sub_cancel_left]
                rfl
              · cases hs
            · cases hs
          · cases hs
      | any =>
        cases hs
        exact post F' as v H' (ext_back x') hb' trivial
      | pot jo is ds =>
        cases jo with
        | none =>
          cases hs
          obtain ⟨p, q, vs, us, e1, e2, e3, e4, e5, e6, e7, e8, e9, e10⟩ := (show ∃ p q vs us, v = .ref p ∧ H' p = some (.lst (.ref q :: us)) ∧ F' p = none ∧ p ∉ as' ∧ H' q = some (.lst vs) ∧ F' q = none ∧ q ∉ as' ∧ p ≠ q ∧ Reps g F' is vs ∧ Reps g F' ds us from ra')
          have sub : ∀ z, z ∈ as → z ∈ as' := fun z hz => by
            obtain ⟨_, l, rfl⟩ := x'
            exact List.mem_append_left _ hz
          exact post F' as v H' (ext_back x') hb' (show ∃ p q vs us, v = .ref p ∧ H' p = some (.lst (.ref q :: us)) ∧ F' p = none ∧ p ∉ as ∧ H' q = some (.lst vs) ∧ F' q = none ∧ q ∉ as ∧ p ≠ q ∧ Reps g F' is vs ∧ Reps g F' ds us from ⟨p, q, vs, us, e1, e2, e3, fun z => e4 (sub _ z), e5, e6, fun z => e7 (sub _ z), e8, e9, e10⟩)
        | some j =>
          obtain ⟨p, b, us, e1, e2, e3, e4, e5, e6⟩ := (show ∃ p b us, v = .ref p ∧ H' p = some (.lst (.ref b :: us)) ∧ F' p = none ∧ p ∉ as' ∧ as'[j]? = some b ∧ Reps g F' ds us from ra')
          have sub : ∀ z, z ∈ as → z ∈ as' := fun z hz => by
            obtain ⟨_, l, rfl⟩ := x'
            exact List.mem_append_left _ hz
          unfold finR at hs
          dsimp only at hs
          by_cases hj : j < μ.length
          · rw [if_pos hj] at hs
            cases hs
          · rw [if_neg hj] at hs
            split at hs
            · rename_i is' his
              cases hs
              obtain ⟨fb, vs', hv, rv⟩ := sr'.cells _ _ _ e5 his
              have nb : b ∉ as := fun hm => by
                obtain ⟨i, hi⟩ := List.getElem?_of_mem hm
                have hil : i < as.length := (List.getElem?_eq_some_iff.mp hi).1
                have hi' : as'[i]? = some b := by
                  obtain ⟨_, l, rfl⟩ := x'
                  rw [List.getElem?_append_left hil]
                  exact hi
                have := nd_at sr'.nd hi' e5
                rw [sr.len] at hil
                omega
              exact post F' as v H' (ext_back x') hb' (show ∃ p q vs us, v = .ref p ∧ H' p = some (.lst (.ref q :: us)) ∧ F' p = none ∧ p ∉ as ∧ H' q = some (.lst vs) ∧ F' q = none ∧ q ∉ as ∧ p ≠ q ∧ Reps g F' is' vs ∧ Reps g F' ds us from ⟨p, b, vs', us, e1, e2, e3, fun z => e4 (sub _ z), hv, fb, nb, fun z => e4 (z ▸ List.mem_of_getElem? e5), rv, e6⟩)
            · cases hs
theorem fn_ok (F : FunD g.K x qual params body scope dvs kws f fd) (S : FnScope N ps scope) (hb : ∀ X W, Ct g P w mg base k N scope true true gb X W → SB g X W body code) :
    FnG gb P w g.K mg base (CX P w) (k + 1) f fd ps (spOf g ps.length (fnSem N.length code)) := fn_okC F S fun X W c _ _ => hb X W c
theorem bnd0 {n : Nat} {ks : List Str} (F : FunD g.K x qual params body scope [] [] f fd)
    (h : ∀ (kV doc pm : Value) (an : Option Addr) (cdv ct : Value) (us ws : List Value), us.length = n → ws.length = ks.length → ∃ b, bindG ks us ws [] ps.length ps 0 = some b ∧ bindArgs (PySem.W.fnOf x qual params body scope .none kV doc pm an cdv ct) ⟨us, ks.zip ws⟩ = pure (ps.zip b)) : Bnd g.K fd ps n ks [] := by
  obtain ⟨oc, od, dV, kV, doc, pm, an, cdv, ct, osl, rfl, lk, hcd, hD, hK⟩ := F.ex
  rcases hD with ⟨_, rfl⟩ | ⟨e, _⟩
  · refine ⟨[], .nil, fun s us ws _ h1 h2 => ?_⟩
    obtain ⟨b, e1, e2⟩ := h kV doc pm an cdv ct us ws h1 h2
    exact ⟨b, e1, .of_eq e2⟩
  · exact absurd rfl e
theorem bnd1 {n : Nat} {ks : List Str} (F : FunD g.K x qual params body scope dvs [] f fd) (hd : dvs ≠ [])
    (h : ∀ (T : Addr) (kV doc pm : Value) (an : Option Addr) (cdv ct : Value) (us its ws : List Value), us.length = n → its.length = dvs.length → ws.length = ks.length → ∃ b, bindG ks us ws its ps.length ps 0 = some b ∧
      ∃ k, bindArgs (PySem.W.fnOf x qual params body scope (.ref T) kV doc pm an cdv ct) ⟨us, ks.zip ws⟩ = seqItems? (.ref T) >>= k ∧ k (some its.toArray) = pure (ps.zip b)) : Bnd g.K fd ps n ks dvs := by
  obtain ⟨oc, od, dV, kV, doc, pm, an, cdv, ct, osl, rfl, lk, hcd, hD, hK⟩ := F.ex
  rcases hD with ⟨e, _⟩ | ⟨_, T, o, its, m, rfl, lT, oT, rT⟩
  · exact absurd e hd
  · refine ⟨its, rT, fun s us ws X h1 h2 => ?_⟩
    obtain ⟨b, e1, k, e2, e3⟩ := h T kV doc pm an cdv ct us its ws h1 rT.length.symm h2
    refine ⟨b, e1, BindsTo.of_looks fun M => ?_⟩
    rw [e2]
    exact looks_items X lT oT (PySem.W.Looks.of_pure e3)
def BndAll (K : PySem.W.Frag) (fd : FuncData) (ps : List Str) (dvs : List V) : List (Nat × List Str) → Prop
  | [] => True
  | q :: r => Bnd K fd ps q.1 q.2 dvs ∧ BndAll K fd ps dvs r
theorem BndAll.get {K : PySem.W.Frag} {fd : FuncData} {ps : List Str} {dvs : List V} : ∀ {sh : List (Nat × List Str)}, BndAll K fd ps dvs sh → ∀ q ∈ sh, Bnd K fd ps q.1 q.2 dvs
  | [], _, q, hq => by cases hq
  | _ :: _, h, q, hq => by
    rcases List.mem_cons.mp hq with e | hq
    · rw [e]; exact h.1
    · exact h.2.get q hq
def dvOk : D → Bool
  | .non => true
  | .bl _ => true
  | .int _ => true
  | .str _ => true
  | .ty _ => true
  | _ => false
theorem dv_rep {F : Hp} {d : D} (h : dvOk d = true) : Rep g F d ((dvOf d).v g.K) := by
  cases d <;> first | (unfold Rep; rfl) | cases h
theorem dvs_rep {F : Hp} : ∀ {ds : List D}, ds.all dvOk = true → Reps g F ds ((ds.map dvOf).map (He.Dv.v g.K))
  | [], _ => Reps.nil
  | d :: ds, h => by
    rw [List.all_cons, Bool.and_eq_true] at h
    exact Reps.cons (dv_rep h.1) (dvs_rep h.2)
theorem FnC.of {dfl : List D} {sh : List (Nat × List Str)} (h : ∃ fd, FunD g.K x qual params body scope ((dfl.map dvOf).map (He.Dv.v g.K)) [] f fd) (hd : dfl.all dvOk = true) (S : FnScope N ps scope) (hb : ∀ X W, Ct g P w mg base k N scope true true gb X W → SB g X W body code)
    (hB : ∀ fd, FunD g.K x qual params body scope ((dfl.map dvOf).map (He.Dv.v g.K)) [] f fd → BndAll g.K fd ps ((dfl.map dvOf).map (He.Dv.v g.K)) sh) : FnC gb g P w mg base ⟨ps, dfl, fnSem N.length code⟩ (k + 1) f sh := by
  obtain ⟨fd, F⟩ := h
  exact ⟨fd, _, fn_ok F S hb, (hB fd F).get, fun _ => dvs_rep hd⟩
end
end Sz
set_option Elab.async false
set_option linter.all false
set_option maxRecDepth 100000
set_option maxHeartbeats 4000000
namespace Sz
open PySem PySem.Spec L2
section
variable {g : G} {P : Program} {w : World} {mg : Str → Option Value} {base : Heap} {k : Nat} {N : List Str} {sc : Scope} {own cm gb : Bool} {X : Cx} {W : WX} {i : Nat} {x : Str}
/-- o.f -/
theorem Ct.attr {a : Expr} {ma : ME} {f : Str} {fls : List (List Str)} {pos : Pos} (c : Ct g P w mg base k N sc own cm gb X W) (ff : FldF g fls) (hno : ∀ c, c < fls.length → NoAttr g.K (g.cad c) f) (ha : SE g X W a ma) (hs : notCall a = true) : SE g X W (.Attribute a f pos) (mAttr fls f ma) :=
  se_attr c.K ff hno ha hs
theorem FnC.sub {fi : FnI} {f : Addr} {sh sh' : List (Nat × List Str)} (F : FnC gb g P w mg base fi k f sh) (j : Nat) (hj : Nat.ble k j = true) (h : sh'.all (fun q => sh.contains q) = true) : FnC gb g P w mg base fi j f sh' := by
  obtain ⟨fd, dvs, h1, h2, h3⟩ := F.ok
  exact ⟨fd, dvs, h1.at_most (Nat.le_of_ble_eq_true hj), fun q hq => h2 q (List.contains_iff_mem.mp (List.all_eq_true.mp h q hq)), h3⟩
end
/-- the text's things by their names: classes, their fields -/
def gOf (cls : List Str) (fls : List (List Str)) (K : PySem.W.Frag) (fns : List Str := []) (tb : List (Addr × Str) := []) : G := ⟨K, fun c => He.ga K (cls.getD c ""), fun c => fls.getD c [], fun n => He.ga K (fns.getD n ""), tb⟩
section
variable {K : PySem.W.Frag} {h : Heap} {mg : Str → Option Value} {frees globs : List Str} {rest : List He.Fa} {fn : List He.DefD}
theorem says_all (S : He.SaysD (faOf frees globs rest) fn K) {f : He.Fa} (hf : f ∈ faOf frees globs rest) : f.ok K = true := by
  have c1 := (He.ba (show ((faOf frees globs rest).all (fun f => f.ok K) && fn.all fun d => d.ok K) = true from congrArg (fun z : He.AlD => z.1) S)).1
  exact List.all_eq_true.mp c1 f hf
theorem tb_of {g : G} (hg : g.K = K) (X : K.In h) (G : h.Ns mainGlobals mg) (S : He.SaysD (faOf frees globs rest) fn K) : Tb g mg frees globs := by
  subst hg
  refine ⟨fun x hx => He.free_ok X G (says_all S ?_), fun x hx => ⟨He.glo_ok X G (says_all S ?_), He.keep_ok (says_all S ?_)⟩⟩
  · exact List.mem_append_left _ (List.mem_map.mpr ⟨x, List.contains_iff_mem.mp hx, rfl⟩)
  · exact List.mem_append_right _ (List.mem_append_left _ (List.mem_map.mpr ⟨x, List.contains_iff_mem.mp hx, rfl⟩))
  · exact List.mem_append_right _ (List.mem_append_right _ (List.mem_append_left _ (List.mem_map.mpr ⟨x, List.contains_iff_mem.mp hx, rfl⟩)))
end
/-- all but the tables -/
def cutT (H : Hp) : Hp := fun b => match H b with
  | some (.tbl _) => none
  | o => o
theorem cutT_sub {H : Hp} : Same (cutT H) H := fun b u e => by
  unfold cutT at e
  split at e
  · cases e
  · exact e
theorem cutT_at {H : Hp} {b : Addr} {u : HO} (h : H b = some u) (n : ∀ ps, u ≠ .tbl ps) : cutT H b = some u := by
  unfold cutT
  split
  · rename_i ps e
    rw [h] at e
    exact absurd (Option.some.inj e) (n ps)
  · exact h
theorem cutT_sql {K : PySem.W.Frag} {H : Hp} {a : Addr} {xs : List V} (h : SqL K H a xs) : SqL K (cutT H) a xs := by
  rcases h with (h | ⟨o, h⟩) | h
  · exact .inl (.inl (cutT_at h (fun ps z => by cases z)))
  · exact .inl (.inr ⟨o, cutT_at h (fun ps z => by cases z)⟩)
  · exact .inr h
theorem sr_empty {g : G} {H : Hp} (ht : ∀ p ∈ g.tbs, H p.1 = some (.tbl #[])) : SR g (cutT H) [] [] H := ⟨cutT_sub, rfl, fun i a c h => by simp at h, .nil, fun a h => by simp at h, fun p hp => ⟨#[], ht p hp, True.intro, ⟨by unfold cutT; rw [ht p hp], List.not_mem_nil⟩, fun pos cv hc => by
  have z : codeAmong pos [] = some cv := hc
  simp [codeAmong] at z⟩⟩
theorem sp_law {g : G} {sem : List S → Sto → Option R} {H : Hp} {a : Addr} {ns : List Int} (hS : SqL g.K H a (ns.map V.int)) (h : sem [.val (.scr ns)] [] = some (.ok (.val (.bl true)), [])) (ht : ∀ p ∈ g.tbs, H p.1 = some (.tbl #[]) := by intro p hp; cases hp) : spOf g 1 sem [.ref a] H (fun v _ => v = .bl true) fun _ _ _ => False := by
  refine ⟨rfl, cutT H, [], [.val (.scr ns)], [], _, _, sr_empty ht, .cons ?_ .nil, h, fun F' as' v H' _ _ r => ?_⟩
  · show Rep g (cutT H) (.scr ns) (.ref a)
    unfold Rep
    exact ⟨a, rfl, cutT_sql hS⟩
  · have r : Rep g F' (.bl true) v := r
    unfold Rep at r
    exact r
end Sz
set_option Elab.async false
set_option linter.all false
set_option maxRecDepth 100000
set_option maxHeartbeats 4000000
namespace Sz
open PySem PySem.Spec L2
abbrev mcan (X : Cx) (id : String) : V → List V → Hp → VK → Prop := fun x xs H Q => ∀ (pins : List (Addr × Obj)) (s : Shared) (σ : L2.St) (v : Value) (us : List Value), Inv X pins σ H s → RelV x v → Vals xs us → wpAny (model X.prog X.w) X.A (call (.builtin id) (v :: us)) (EP X pins σ Q) X.xe s
theorem mt_can {X : Cx} {id : String} : MtR X id (mcan X id) := fun pins s σ H x xs v us Q I r rs h => h pins s σ v us I r rs
theorem mc {X : Cx} {id : String} {r : V → List V → Hp → VK → Prop} (h : MtR X id r) {x : V} {xs : List V} {H : Hp} {Q : VK} (q : r x xs H Q) : mcan X id x xs H Q := fun pins s σ v us I rx rs => h pins s σ H x xs v us Q I rx rs q
def LmOk (g : G) (X : Cx) (id : String) (op : List D → List D → Option (D × List D)) : Prop :=
  ∀ (xs ds ys : List D) (r : D) (F : Hp) (a : Addr) (vs us : List V) (H : Hp) (Q : VK), op xs ds = some (r, ys) → Same F H → Reps g F xs vs → Reps g F ds us → H a = some (.lst vs) → (∀ w zs, Rep g F r w → Reps g F ys zs → Q w (upd H a (.lst zs))) → mcan X id (.ref a) us H Q
def finLm (op : List D → List D → Option (D × List D)) (k : Nat) (ss : List S) (μ : Sto) : Option R := match toDs μ ss with
  | some (ds, μ3) => (match μ3[k]? with
    | some (.lst xs) => (match op xs ds with
      | some (r, ys) => some (.ok (.val r), μ3.set k (.lst ys))
      | none => none)
    | _ => none)
  | none => none
def isLst : Option C → Bool
  | some (.lst _) => true
  | _ => false
def mLm (op : List D → List D → Option (D × List D)) (o : ME) (ms : List ME) : ME := fun ρ μ => andThen (o ρ μ) fun s μ1 => match rt s with
  | .cell k => if isLst μ1[k]? then andThen (mArgs ms ρ μ1) (finLm op k) else none
  | _ => none
section
variable {g : G} {X : Cx} {W : WX}
theorem finLm_run {id : String} {op : List D → List D → Option (D × List D)} (ho : LmOk g X id op) {F : Hp} {as : List Addr} {μ μ' : Sto} {H : Hp} {σ : L2.St} {Q : VK} {r : Except Ex S} {k : Nat} {a : Addr} {ss : List S} {us : List V} (ha : as[k]? = some a)
    (h : finLm op k ss μ = some (r, μ')) (sr : SR g F as μ H) (rs : RSs g F as ss us) (post : PostE g W F as σ Q r μ') : mcan X id (.ref a) us H Q := by
  unfold finLm at h
  split at h
  · rename_i ds μ3 hd
    obtain ⟨F3, x3, sr3, r3⟩ := toDs_rs sr rs hd
    split at h
    · rename_i xs hx
      split at h
      · rename_i rr ys hop
        cases h
        obtain ⟨fa, vs, hv, rv⟩ := sr3.cells _ _ _ ha hx
        refine ho xs ds ys rr F3 a vs us H Q hop sr3.sub rv r3 hv fun w zs rw' rz => ?_
        exact post F3 as w _ x3 (sr3.write ha fa ⟨fa, zs, upd_same, rz⟩) rw'
      · cases h
    · cases h
  · cases h
theorem se_lm {id : String} {m : Str} {op : List D → List D → Option (D × List D)} {o e : Expr} {es : List Expr} {mo : ME} {ms : List ME} {apos pos : Pos} (slot : Slot "list" m id) (hty : typeOf (.builtin id) = pure (.type "method_descriptor")) (ho : LmOk g X id op)
    (hK : g.K = X.K) (hb : recvOk o = true) (hf : methForm apos pos (e :: es) [] = true) (hst : (e :: es).all notStar = true) (h1 : SE g X W o mo) (h2 : SA g X W (e :: es) (mArgs ms)) : SE g X W (.Call (.Attribute o m apos) (e :: es) [] pos) (mLm op mo ms) := by
  unfold methForm at hf
  rw [Bool.and_eq_true] at hf
  have hst' := hst
  rw [List.all_cons, Bool.and_eq_true] at hst'
  refine ⟨fun F as ρ μ σ H Q r μ' h sr er post => wE (pe_bm PySem.F.plainAttrs_list slot hty mt_can pe_wp pa_wp (recv_base hb) (by rw [all_plain hst]; exact hf.2) hf.1 (starEach_cons hst'.1) (starEach_plain hst'.2)) ?_⟩
  refine h1.then_ (show andThen _ _ = some (r, μ') from h) sr er (fun x e => by subst e; exact post) fun s μ1 F1 as1 v H1 h3 x1 sr1 er1 ra1 => ?_
  obtain ⟨F1', x1', sr1', rs1⟩ := root_ok sr1 ra1
  split at h3
  · rename_i k hk
    rw [hk] at rs1
    obtain ⟨a, ha, rfl⟩ := (show ∃ a, as1[k]? = some a ∧ v = .ref a from rs1)
    split at h3
    · rename_i hl
      refine ⟨.inl ⟨rfl, ?_⟩, ?_⟩
      · cases hc : μ1[k]? with
        | none => rw [hc] at hl; cases hl
        | some c =>
          rw [hc] at hl
          cases c with
          | lst xs =>
            obtain ⟨fa, vs, hv, rv⟩ := sr1'.cells _ _ _ ha hc
            exact ⟨vs, SqL.of hv⟩
          | frz _ => cases hl
          | ins _ _ => cases hl
          | pot _ _ => cases hl
          | dct _ => cases hl
          | bk _ _ => cases hl
      · refine h2.then_ h3 sr1' (er1.mono x1') (fun x e => by subst e; exact PErr.ext (x1.trans x1') post) fun ss μ2 F2 as2 us H2 h4 x2 sr2 er2 rs2 => ?_
        have ha2 : as2[k]? = some a := by
          obtain ⟨_, l, rfl⟩ := x2
          rw [List.getElem?_append_left (List.getElem?_eq_some_iff.mp ha).1]
          exact ha
        exact finLm_run (W := W) ho ha2 h4 sr2 rs2 (PostE.ext ((x1.trans x1').trans x2) post)
    · cases h3
  · cases h3
def lApp : List D → List D → Option (D × List D)
  | xs, [d] => if xs.length < sizeLine then some (.non, xs ++ [d]) else none
  | _, _ => none
theorem lm_app : LmOk g X "list.append" lApp := by
  intro xs ds ys r F a vs us H Q e hs rx rd ha k
  unfold lApp at e
  split at e
  · rename_i xs d
    split at e
    · rename_i hz
      cases e
      obtain ⟨u, us', rfl, h1, h2⟩ := Reps.cons_iff.mp rd
      cases Reps.nil_iff.mp h2
      exact mc (r := rAppend) mt_append ⟨a, vs, u, rfl, rfl, ha, by rw [rx.length]; exact hz, k .non _ (by unfold Rep; rfl) (rx.append (Reps.cons h1 Reps.nil))⟩
    · cases e
  · cases e
end
theorem eqB_ok {a b : Option Bool} (h : eqB a b = true) : a = b := by
  unfold eqB at h
  split at h
  · rw [beq_iff_eq.mp h]
  · rfl
  · cases h
theorem kitB_ok {cls fns : List Str} {fls : List (List Str)} {tb : List (Addr × Str)} {n m : Nat} {sub : Nat → Nat → Bool} {K : PySem.W.Frag} (h : kitB cls n m sub K = true) : KitF (gOf cls fls K fns tb) n m sub := by
  unfold kitB at h
  simp only [Bool.and_eq_true, List.all_eq_true, List.mem_range] at h
  obtain ⟨⟨h1, h2⟩, h3, h4, h5, h6⟩ := h
  refine ⟨fun c hc => He.cls_ok (h3 c hc).1, fun c hc => He.eqO_ok (h3 c hc).2.1, fun _ => He.eqO_ok h1, fun _ => eqB_ok h2, fun c hc => eqB_ok (h3 c hc).2.2, fun c T hc hT => eqB_ok (h4 c hc T (List.contains_iff_mem.mp hT)), fun c c' hc hc' => eqB_ok (h5 c hc c' hc'), fun c T hc hT => eqB_ok (h6 c hc T (List.contains_iff_mem.mp hT))⟩
theorem SaysZ.chk {chk : PySem.W.Frag → Bool} {fa : List He.Fa} {fn : List He.DefD} {K : PySem.W.Frag} (S : SaysZ chk fa fn K) : chk K = true :=
  (He.ba (He.ba (show ((chk K && fa.all fun f => f.ok K) && fn.all fun d => d.ok K) = true from congrArg (fun z : He.AlD => z.1) S)).1).1
theorem SaysZ.says {chk : PySem.W.Frag → Bool} {fa : List He.Fa} {fn : List He.DefD} {K : PySem.W.Frag} (S : SaysZ chk fa fn K) : He.SaysD fa fn K := by
  have h1 := He.ba (show ((chk K && fa.all fun f => f.ok K) && fn.all fun d => d.ok K) = true from congrArg (fun z : He.AlD => z.1) S)
  have h2 := (He.ba h1.1).2
  have h3 : fn.map (fun d => He.fnW K d.at_) = fn.map He.DefD.val := congrArg (fun z : He.AlD => z.2) S
  show ((fa.all fun f => f.ok K) && fn.all fun d => d.ok K, fn.map fun d => He.fnW K d.at_) = (true, fn.map He.DefD.val)
  rw [h2, h1.2, h3]
  rfl
end Sz
set_option Elab.async false
set_option linter.all false
set_option maxRecDepth 100000
set_option maxHeartbeats 4000000
namespace Sz
open PySem PySem.Spec L2
end Sz
set_option Elab.async false
set_option linter.all false
set_option maxRecDepth 100000
set_option maxHeartbeats 4000000
namespace Sz
open PySem PySem.Spec PyProof.Rows L2
/-- the heap with nothing but the script in it -/
def scrH (K : PySem.W.Frag) (a : Addr) (o : Obj) (xs : List V) : Hp := fun b => if b = a ∧ K.lookup a = none then some (.frz o (.lst xs)) else none
theorem scrH_some {K : PySem.W.Frag} {a b : Addr} {o : Obj} {xs : List V} {u : HO} (h : scrH K a o xs b = some u) : b = a ∧ K.lookup a = none ∧ u = .frz o (.lst xs) := by
  unfold scrH at h
  by_cases c : b = a ∧ K.lookup a = none
  · rw [if_pos c] at h
    exact ⟨c.1, c.2, (Option.some.inj h).symm⟩
  · rw [if_neg c] at h
    cases h
theorem law_runs {P : Program} {w : World} {K : PySem.W.Frag} {mg mb : Str → Option Value} {gb : Bool} {k : Nat} {fa a : Addr} {fd : FuncData} {x : Str} {sp : Sp} {st : Shared} {vs : List Value} {ns : List Int}
    (inK : K.In st.heap) (gl : st.heap.Ns mainGlobals mg) (bl : st.heap.Ns builtinsNs mb) (blb : ∀ x : Str, x ≠ "__name__" → mb x = bootBuiltins x) (nl : st.heap.NoLimit) (gens : st.gens = #[])
    (there : st.heap.get? a = some { cls := .type "list", data := .seq vs.toArray }) (nums : IntsAre vs ns) (small : ns.length ≤ sizeLine) (room : Room k callerA)
    (F : ∀ base : Heap, K.In base → base.Ns mainGlobals mg → FnG gb P w K mg base (CX P w) k fa fd [x] sp) (bind : ∀ (s : Shared) (u : Value), BindsTo s fd ⟨[u], []⟩ [(x, u)])
    (ask : ∀ H : Hp, SqL K H a (ns.map V.int) → sp [.ref a] H (fun v _ => v = .bl true) fun _ _ _ => False) :
    codeAny (model P w) callerA (.call (.ref fa) ⟨[.ref a], []⟩) (fun r s' => r = .ok (.ret (.bool true)) ∧ OldK st.heap s'.heap ∧ s'.os = st.os ∧ AllBare s'.gens) st := by
  have iv := vals_ints nums
  have ln := nums.length
  let o : Obj := { cls := .type "list", data := .seq vs.toArray }
  let H := scrH K a o (ns.map V.int)
  have only : ∀ {b : Addr} {u : HO}, H b = some u → b = a ∧ K.lookup a = none ∧ u = .frz o (.lst (ns.map V.int)) := fun h => scrH_some h
  have free : ∀ {b : Addr}, b ≠ a → H b = none := fun {b} n => if_neg fun c => n c.1
  have notDict : ∀ {b : Addr} {ob : Obj} {es : Array DictEntry} {ep : Nat}, st.heap.get? b = some ob → ob.data = .dict es ep → H b = none := by
    intro b ob es ep e d
    refine free fun z => ?_
    subst z
    have e' := there.symm.trans e
    cases e'
    exact Data.noConfusion d
  have hok : HOk P w H st.heap := by
    intro b u h
    obtain ⟨rfl, _, rfl⟩ := only h
    exact ⟨there, by rw [List.length_map]; exact small, vs, _, iv, there⟩
  have kept : ∀ {b : Addr} {m : Str → Option Value}, st.heap.Ns b m → (hidT st.heap H).Ns b m := fun {b m} ⟨ob, es, ep, e, d, r⟩ => ⟨ob, es, ep, hidT_get e (notDict e d), d, r⟩
  have kIn : K.In (hidT st.heap H) := fun b ob e => hidT_get (inK b ob e) (by
    cases q : H b with
    | none => rfl
    | some u =>
      obtain ⟨rfl, n, _⟩ := only q
      rw [n] at e
      cases e)
  have md : Mod K mg (hidT st.heap H) := ⟨kIn, kept gl, ⟨mb, kept bl, blb⟩, let ⟨mc, c1, c2⟩ := nl; ⟨mc, kept c1, c2⟩⟩
  have en : Env0 P w K mg (hidT st.heap H) callerA [] st H := ⟨rfl, md, fun b ob e => of_hidT e, Nat.le_of_eq (hidT_size _ _), trivial, fun b hb => absurd hb (List.not_mem_nil), hok, .of_eq gens⟩
  have scr : SqL K H a (ns.map V.int) := by
    cases hk : K.lookup a with
    | none => exact .inl (.inr ⟨o, if_pos ⟨rfl, hk⟩⟩)
    | some ob =>
      have e := (inK a ob hk).symm.trans there
      cases e
      exact .inr ⟨_, vs.toArray, _, hk, rfl, rfl, rfl, by rw [List.size_toArray, ln]; exact small, by simpa using iv⟩
  refine codeAny_mono ((F _ kIn (kept gl)).go callerA [] st H ⟨[.ref a], []⟩ [.ref a] [.ref a] _ _ room (fun _ => rfl) en (bind st (.ref a)) (.cons rfl .nil) (ask H scr)) fun r s' told => ?_
  cases r with
  | error e =>
    obtain ⟨_, _, _, _, _, _, _, _, _, _, _, _, z⟩ := told
    exact z.elim
  | ok fl =>
    cases fl with
    | ret u =>
      obtain ⟨v, H', os, bare, un, hok', rv, q⟩ := told
      obtain rfl : v = .bl true := q
      obtain rfl : u = Value.bool true := rv
      refine ⟨rfl, OldK.of_keep fun b ob e => ?_, os, bare⟩
      cases q : H b with
      | none => exact un.keep b ob e q (fun z => absurd z List.not_mem_nil) (fun z => absurd z List.not_mem_nil)
      | some u =>
        obtain ⟨rfl, _, rfl⟩ := only q
        obtain ⟨e2, _⟩ := hok' b _ (un.frzs b o _ q)
        have e1 := there.symm.trans e
        cases e1
        exact e2
    | next => exact False.elim told
    | brk => exact False.elim told
    | cont => exact False.elim told
/-- the goal behind the head, from the law's promise -/
theorem walk_G {l : PySem.W.OpenLaw} {n k : Nat} {q : Program} {loose : List Str} {XP : (Str → Option Value) → Heap → Prop} {YP : World → Heap → Prop} {d : DefRec} {x : Str} {gb : Bool}
    (most : l.most = some n) (small : n ≤ sizeLine) (dflt : d.params.defaults = []) (room : Room k callerA)
    (F : ∀ (w : World) (mg : Str → Option Value) (fa : Addr) (h : Heap), YP w h → h.Ns mainGlobals mg → mg d.name = some (.ref fa) →
      ∃ (K : PySem.W.Frag) (fd : FuncData) (sp : Sp), K.In h ∧ (∀ (s : Shared) (u : Value), BindsTo s fd ⟨[u], []⟩ [(x, u)]) ∧
        (∀ (H : Hp) (a : Addr) (ns : List Int), ns.length ≤ n → SqL K H a (ns.map V.int) → sp [.ref a] H (fun v _ => v = .bl true) fun _ _ _ => False) ∧
        ∀ base : Heap, K.In base → base.Ns mainGlobals mg → FnG gb l.prog w K mg base (CX l.prog w) k fa fd [x] sp) :
    PySem.W.WalkO q loose XP YP l.row.toRowW d [] (fun f vs => PySem.call f vs) := by
  refine Att.attach_call most dflt fun w s0 s1 mg mb fa o pm cd doc a vs ns Gr Y at_ dt code named script nums few gens => ?_
  obtain ⟨K, fd, sp, inK, bind, ask, prom⟩ := F w mg fa _ Y Gr.T.g named
  exact law_runs inK Gr.T.g Gr.T.b Gr.T.builtins Gr.T.nolimit gens script nums (Nat.le_trans few small) room prom bind fun H q => ask H a ns few q
end Sz
set_option Elab.async false
set_option linter.all false
set_option maxRecDepth 100000
set_option maxHeartbeats 4000000
namespace Sz
open PySem PySem.Spec L2
mutual
theorem noDict : ∀ {d : D} {p : PyData}, toPy d = some p → p.hasDict = false
  | .non, p, h => by unfold toPy at h; cases h; rfl
  | .bl _, p, h => by unfold toPy at h; cases h; rfl
  | .int _, p, h => by unfold toPy at h; cases h; rfl
  | .str _, p, h => by unfold toPy at h; cases h; rfl
  | .tup ds, p, h => by
    unfold toPy at h
    cases q : toPys ds with
    | none => rw [q] at h; cases h
    | some ps =>
      rw [q] at h
      cases h
      exact noDicts q
  | .lst ds, p, h => by
    unfold toPy at h
    cases q : toPys ds with
    | none => rw [q] at h; cases h
    | some ps =>
      rw [q] at h
      cases h
      exact noDicts q
  | .ty _, _, h => by unfold toPy at h; cases h
  | .obj _ _, _, h => by unfold toPy at h; cases h
  | .fn _, _, h => by unfold toPy at h; cases h
  | .cls _, _, h => by unfold toPy at h; cases h
  | .scr _, _, h => by unfold toPy at h; cases h
  | .dic _ _, _, h => by unfold toPy at h; cases h
  | .exc _ _, _, h => by unfold toPy at h; cases h
theorem noDicts : ∀ {ds : List D} {ps : List PyData}, toPys ds = some ps → PyData.hasDictAll ps = false
  | [], ps, h => by unfold toPys at h; cases h; rfl
  | d :: ds, ps, h => by
    unfold toPys at h
    cases q : toPy d with
    | none => rw [q] at h; simp at h
    | some p =>
      cases q2 : toPys ds with
      | none => rw [q, q2] at h; simp at h
      | some ps' =>
        rw [q, q2] at h
        simp only [Option.some.injEq] at h
        subst h
        show (p.hasDict || PyData.hasDictAll ps') = false
        rw [noDict q, noDicts q2]
        rfl
end
/-- what may be shown -/
def shOk (p : PyData) : Bool := p.showable && (decide (p.depth ≤ 60) && decide (p.shown.length ≤ sizeLine))
def shK : Option PyData → Option S
  | some p => if shOk p = true then some (.val (.str p.shown)) else none
  | none => none
def bRepr : List D → Option S
  | [d] => shK (toPy d)
  | _ => none
section
variable {g : G} {X : Cx}
theorem co_repr (hg : g.K = X.K) (gd : X.A.guards = some []) (hu : X.A.units + 200 < cLine) : CallOk g X (.builtin "repr") bRepr := by
  intro xs s F as μ H vs Q e sr hx k
  unfold bRepr at e
  split at e
  · rename_i d
    obtain ⟨v, rfl, hv⟩ := vrs1 hx
    unfold shK at e
    split at e
    · rename_i p hp
      split at e
      · rename_i hs
        cases e
        unfold shOk at hs
        simp only [Bool.and_eq_true, decide_eq_true_eq] at hs
        obtain ⟨h1, h2, h3⟩ := hs
        have hd : Dp g.K H v p := toPy_vr sr hp hv
        intro pins st σ us I ru
        obtain ⟨u, rfl, r1⟩ := ru.one
        have fin : ∀ (st' : Shared) (t : Tok), Inv X pins σ H st' → EP X pins σ Q (.str p.shown t) st' := fun st' t I' => ⟨.str p.shown, H, I', ⟨t, rfl⟩, k F as _ H .refl sr ra_str⟩
        have big : ∀ a : Addr, v = .ref a → wpAny (model X.prog X.w) X.A (call (.builtin "repr") [u]) (EP X pins σ Q) X.xe st := by
          rintro a rfl
          obtain ⟨as', rd⟩ := Dp.reads I p _ u (hg ▸ hd) r1
          cases r1
          exact repr_of_reads' rd h1 (PyData.noDict_hsm (noDict hp)) gd (by omega) (fun _ _ q => q) (fun h' t tk hk => fin _ t (I.kept (t' := tk) fun b o q => hk b o q)) h3
        cases hd with
        | tup _ _ => exact big _ rfl
        | lst _ _ => exact big _ rfl
        | non =>
          cases (show u = Value.none from r1)
          exact PySem.P.repr_of_none (fin _ _ (I.tok _))
        | bl b =>
          cases (show u = Value.bool b from r1)
          exact PySem.P.repr_of_bool (fin _ _ (I.tok _))
        | int i =>
          obtain ⟨t, rfl⟩ := (show ∃ t, u = Value.int i t from r1)
          exact PySem.P.repr_of_int (of_decide_eq_true h1) (fin _ _ (I.tok _))
        | str x =>
          obtain ⟨t, rfl⟩ := (show ∃ t, u = Value.str x t from r1)
          exact PySem.P.repr_of_str (fin _ _ (I.tok _)) h3
      · cases e
    · cases e
  · cases e
end
end Sz
set_option Elab.async false
set_option linter.all false
set_option maxRecDepth 100000
set_option maxHeartbeats 4000000
namespace Sz
open PySem PySem.Spec PyProof.Rows L2
open AutoSeq1 (wpAny_loadPart')
open RZ (ItzT pi_zipA)
theorem enum1_new {v : Value} {o : Obj} {Hd : Heap → Prop} (B : Begins v o Hd) :
    Meets (Builtin.«enumerate.__new__» ⟨[.type "enumerate", v], []⟩) (fun _ R st => Hd st.heap ∧
      R (.ok (.ret (.ref (st.heap.push o).objs.size))) { st with heap := (st.heap.push o).push { cls := .type "enumerate", data := .fields #[.none, .bool false, .ref st.heap.objs.size, rawInt 0, .none, .none] } }) :=
  .of_wp fun P w A R st told => by
    obtain ⟨hp, gs, dr, tk, os⟩ := st
    obtain ⟨there, goal⟩ := told
    have sub := sub_enumerate
    have it1 : ∀ {A' : Around} {E : Value → Shared → Prop} {Q : Value → Shared → Prop}, Q (.ref hp.objs.size) ⟨hp.push o, gs, dr, tk, os⟩ → wpAny (model P w) A' (pyIter v) Q E ⟨hp, gs, dr, tk, os⟩ :=
      fun q => B.iter P w _ _ ⟨hp, gs, dr, tk, os⟩ _ there q
    wp_walk using it1
    refine wpAny_stack_any fun _ => wpAny_pure ?_
    split
    · rename_i c _ _ _ _ _
      cases (c == Value.type "enumerate") <;>
      · wp_walk using it1
        exact ⟨_, rfl, goal⟩
    · wp_walk using it1
      exact ⟨_, rfl, goal⟩
theorem call_enum1 {P : Program} {w : World} {A : Around} {E : Value → Shared → Prop} {st : Shared} {v : Value} {o : Obj} {Hd : Heap → Prop} {Q : Value → Shared → Prop} (B : Begins v o Hd) (there : Hd st.heap)
    (goal : ∀ h', IsEnum h' (st.heap.objs.size + 1) st.heap.objs.size 0 .none → h'.get? st.heap.objs.size = some o → (∀ b ob, st.heap.get? b = some ob → h'.get? b = some ob) → Q (.ref (st.heap.objs.size + 1)) { st with heap := h' }) :
    wpAny (model P w) A (call (.type "enumerate") [v]) Q E st := by
  have size1 : (st.heap.push o).objs.size = st.heap.objs.size + 1 := Heap.size_push ..
  have en : IsEnum ((st.heap.push o).push { cls := .type "enumerate", data := .fields #[.none, .bool false, .ref st.heap.objs.size, rawInt 0, .none, .none] }) (st.heap.objs.size + 1) st.heap.objs.size 0 .none := by
    have z := Heap.get?_push_size (st.heap.push o) (o := { cls := .type "enumerate", data := .fields #[.none, .bool false, .ref st.heap.objs.size, rawInt 0, .none, .none] }) rfl
    rw [size1] at z
    exact z
  refine callType_new F.called_enumerate (by decide) (F.typeCall_enumerate_1 _) (F.newCall_enumerate_1 _) (fun ob => F.args_object_init_2 ob _) F.entry_enumerate_new (enum1_new B) ⟨there, ?_⟩
  show _ ∧ _
  rw [size1]
  exact ⟨⟨_, en, rfl⟩, goal _ en (Heap.get?_push_of_some _ (Heap.get?_push_size _ B.free)) fun b ob x => Heap.get?_push_of_some _ (Heap.get?_push_of_some _ x)⟩
/-- the tuple at a, each item in a new pair with its number -/
def IteT (K : PySem.W.Frag) (a : Addr) : It :=
  ⟨fun i H => ∃ (xs : List V) (x : V), SqT K H a xs ∧ xs[i]? = some x,
    fun i H v H' => ∃ T x, v = .ref T ∧ H T = none ∧ H' = upd H T (.tup [.int (i : Nat), x]) ∧ ∀ xs, SqT K H a xs → xs[i]? = some x,
    fun i H => ∃ xs : List V, SqT K H a xs ∧ xs.length = i⟩
theorem turn_enumT {P : Program} {w : World} {K : PySem.W.Frag} {elts : List Expr} {kk : Nat} {tpos : Pos} (a e it : Addr) :
    Turn P w K (.Tuple elts kk tpos) (IteT K a) [e, it] e (fun i h => (∃ old, IsEnum h e it ((i : Nat) : Int) old) ∧ h.IsTupleIter it a i ∧ e ≠ it ∧ a ≠ it ∧ e ≠ a) where
  mem := by simp
  obj := fun i h told b hb => by
    obtain ⟨⟨old, en⟩, ⟨o, ho, hc, hd⟩, _⟩ := told
    rcases (show b = e ∨ b = it by simpa using hb) with rfl | rfl
    · exact ⟨_, en, fun v q => nomatch q⟩
    · exact ⟨o, ho, fun v q => by rw [hd] at q; cases q⟩
  keep := fun i h h' told k => by
    obtain ⟨⟨old, en⟩, ti, rest⟩ := told
    exact ⟨⟨old, k e (by simp) _ en⟩, ti.at fun o q => k it (by simp) o q, rest⟩
  item := by
    intro X hP hw hK hc i pins st σ H E I hf told hg
    subst hP hw hK
    obtain ⟨⟨old, en⟩, ti, n1, n2, n3⟩ := told
    obtain ⟨xs, x, hq, hx⟩ := hg
    obtain ⟨its, rv, tp, hz⟩ := I.tuple hq
    obtain ⟨u, hu, ru⟩ := rv.get hx
    have le : e < st.heap.objs.size := Heap.lt_size en
    have li : it < st.heap.objs.size := by
      obtain ⟨_, q, _⟩ := ti
      exact Heap.lt_size q
    have isT : st.heap.IsTuple a its.toArray := by
      obtain ⟨o, c1, c2, n, c3⟩ := tp
      exact ⟨o, c1, c2, n, c3⟩
    have li2 : i < its.toArray.size := by
      rw [List.size_toArray, ← rv.length]
      exact (List.getElem?_eq_some_iff.mp hx).1
    have Dr := Draws.tuple (prog := X.prog) (w := X.w) (A := X.A.in1) (I.ok.hd hc) it a n2 its.toArray
    refine wpAny_pyNext_enum_itemD Dr en ⟨ti, isT⟩ li2 n1 (by simp [n1, n3]) fun x' h' tk hx' out st2 hT hsz hk => ?_
    obtain ⟨ti2, isT2⟩ := st2
    have ex : x' = u := by
      have z : its.toArray[i]? = some u := by simpa using hu
      rw [hx'] at z
      exact Option.some.inj z
    subst ex
    refine ⟨_, rfl, wpAny_letOwnedTupleGo_enum (s := { st with heap := h', toks := tk + 1 }) out fun h'' en' sb => ?_⟩
    have hT2 : h''.get? st.heap.objs.size = some { cls := .type "tuple", data := .seq #[.int i tk, x'] } := (sb.2 _ (Nat.ne_of_gt le)).trans hT
    have new : ObjOk X.prog X.w (upd H st.heap.objs.size (.tup [.int (i : Nat), x])) h'' st.heap.objs.size (.tup [.int (i : Nat), x]) := by
      refine ⟨?_, [.int i tk, x'], .cons ⟨_, rfl⟩ (.cons ru .nil), ⟨_, hT2, rfl, _, rfl⟩⟩
      show 2 ≤ sizeLine
      decide
    have apart : ∀ b ob, b ∉ [e, it] → st.heap.get? b = some ob → h''.get? b = some ob := fun b ob hb q =>
      (sb.2 b fun z => hb (by simp [z])).trans (hk b ob (fun z => hb (by simp [z])) (fun z => hb (by simp [z])) q)
    have I1 := I.turnedNew (t' := tk + 1) apart hf (Nat.le_refl _) new
    refine ⟨.ref st.heap.objs.size, _, I1, rfl, ⟨_, x, rfl, I.hok.fresh (Nat.le_refl _), rfl, fun ys hy => by rw [I.tuple_inj hy hq]; exact hx⟩, ⟨⟨x', ?_⟩, ti2.at fun o q => (sb.2 it (Ne.symm n1)).trans q, n1, n2, n3⟩, fun b hb => ?_⟩
    · have e1 : ((i + 1 : Nat) : Int) = (i : Int) + 1 := by omega
      rw [e1]
      exact en'
    · have below : b < st.heap.objs.size := by
        rcases (show b = e ∨ b = it by simpa using hb) with rfl | rfl
        · exact le
        · exact li
      rw [upd_ne (Nat.ne_of_lt below)]
      exact (hf b hb).1
  done := by
    intro X hP hw hK hc i pins st σ H E I hf told hg
    subst hP hw hK
    obtain ⟨⟨old, en⟩, ti, n1, n2, n3⟩ := told
    obtain ⟨xs, hq, hx⟩ := hg
    obtain ⟨its, rv, tp, hz⟩ := I.tuple hq
    have isT : st.heap.IsTuple a its.toArray := by
      obtain ⟨o, c1, c2, n, c3⟩ := tp
      exact ⟨o, c1, c2, n, c3⟩
    obtain ⟨f0, f1, f2, f3, f4, f5⟩ := hf it (by simp)
    have li2 : its.toArray.size = i := by
      rw [List.size_toArray, ← rv.length]
      exact hx
    subst li2
    have Dr := Draws.tuple (prog := X.prog) (w := X.w) (A := X.A.in1) (I.ok.hd hc) it a n2 its.toArray
    exact wpAny_pyNext_enum_endD Dr en ⟨ti, isT⟩ fun h' eb => ⟨rfl, I.turned (t' := st.toks) (fun b o hb q => eb b o hb q) f0 f1 f3 f4 f5⟩
  self := fun A i st Q E told h => by
    obtain ⟨⟨_, en⟩, _⟩ := told
    exact wpAny_pyIter_enum en h
/-- enumerate(e), e a list or a tuple -/
def iEnumA (K : PySem.W.Frag) (ta : TA) : TI := fun σ H R => ta σ H fun vs H1 => ∃ a, vs = [.ref a] ∧ ((∃ xs, SqL K H1 a xs ∧ R (Ite K a) H1) ∨ ∃ xs, SqT K H1 a xs ∧ R (IteT K a) H1)
theorem pi_enumA {X : Cx} {e : Expr} {ta : TA} {p pos tpos : Pos} {elts : List Expr} {kk : Nat} (gl : Gl X "enumerate") (hm : X.mg "enumerate" = none) (ha : PA X [e] ta) (hs : starEach [e] X.env = [(false, eval e X.env)]) :
    PI X (.Tuple elts kk tpos) (.Call (.Name "enumerate" p) [e] [] pos) (iEnumA X.K ta) := by
  refine ⟨fun pins s σ H R I told => ?_⟩
  refine Call_ (ld_blt I gl hm boot_enumerate (callWith_type1 (thn (ha.run pos pins s σ H _ I told) fun us s1 ⟨vs, H1, I1, r1, q1⟩ => ?_) hs rfl))
  obtain ⟨a, ex, q⟩ := q1
  subst ex
  obtain ⟨u, rfl, ru⟩ := r1.one
  cases (show u = Value.ref a from ru)
  have foot : ∀ b ∈ [s1.heap.objs.size + 1, s1.heap.objs.size], FpOk X pins H1 b := fun b hb => by
    have hle : s1.heap.objs.size ≤ b := by
      rcases (show b = s1.heap.objs.size + 1 ∨ b = s1.heap.objs.size by simpa using hb) with rfl | rfl
      · exact Nat.le_succ _
      · exact Nat.le_refl _
    exact I1.fpOk hle (I1.hok.fresh hle)
  rcases q with ⟨xs, hq, q⟩ | ⟨xs, hq, q⟩
  · obtain ⟨its, rv, pl, hz⟩ := I1.list hq
    refine call_enumerate_list pl.isList fun h' he hit hsz hk => wpAny_pyIter_enum he ?_
    exact ⟨s1.heap.objs.size + 1, [s1.heap.objs.size + 1, s1.heap.objs.size], _, _, H1, rfl, I1.kept (t' := s1.toks) hk, turn_enum a (s1.heap.objs.size + 1) s1.heap.objs.size, ⟨⟨.none, he⟩, hit, Nat.succ_ne_self _⟩, foot, q⟩
  · obtain ⟨its, rv, tp, hz⟩ := I1.tuple hq
    have isT : s1.heap.IsTuple a its.toArray := by
      obtain ⟨o, c1, c2, n, c3⟩ := tp
      exact ⟨o, c1, c2, n, c3⟩
    have la : a < s1.heap.objs.size := by
      obtain ⟨o, c1, _⟩ := isT
      exact Heap.lt_size c1
    refine call_enum1 (begins_tuple a its.toArray) isT fun h' he hit hk => wpAny_pyIter_enum he ?_
    exact ⟨s1.heap.objs.size + 1, [s1.heap.objs.size + 1, s1.heap.objs.size], _, _, H1, rfl, I1.kept (t' := s1.toks) hk, turn_enumT a (s1.heap.objs.size + 1) s1.heap.objs.size,
      ⟨⟨.none, he⟩, ⟨_, hit, rfl, rfl⟩, Nat.succ_ne_self _, Nat.ne_of_lt la, Nat.ne_of_gt (Nat.lt_succ_of_lt la)⟩, foot, q⟩
section
variable {g : G} {X : Cx} {W : WX} {F0 : Hp} {e : Expr} {m : ME} {p pos : Pos}
theorem jok_enumT {a : Addr} {xs : List V} {ds : List D} (h : SqT g.K F0 a xs) (r : Reps g F0 ds xs) : JOk g (IteT g.K a) F0 (enumD 0 ds) := by
  intro F as μ H e sr i
  have hs : SqT g.K H a xs := seqT_mono sr.sub (seqT_mono e h)
  refine ⟨fun hi => ⟨xs, hs, by rw [r.length, hi, enumD_len]⟩, fun d hd => ?_⟩
  rw [enumD_get] at hd
  obtain ⟨d', h0, rfl⟩ := Option.map_eq_some_iff.mp hd
  obtain ⟨v, h1, h2⟩ := r.get h0
  refine ⟨⟨xs, v, hs, h1⟩, fun x H' ⟨T, x', e1, e2, e3, e4⟩ => ?_⟩
  subst e1 e3
  have := e4 xs hs
  rw [h1] at this
  cases this
  obtain ⟨sr', x', y'⟩ := sr.frozen (o := .tup [.int (i : Nat), v]) e2
  refine ⟨_, x', sr', ?_⟩
  unfold Rep
  refine ⟨T, _, rfl, SqT.of y', Reps.cons ?_ (Reps.cons ((h2.mono e).mono x'.1) Reps.nil)⟩
  unfold Rep
  rw [Nat.zero_add]
def seqOf : D → Option (List D)
  | .lst ds => some ds
  | .tup ds => some ds
  | _ => none
def enumK (d : D) : Option (List D) := (seqOf d).map (enumD 0)
def iEnum2 (m : ME) : MI := fun ρ μ => andThen (m ρ μ) (finI enumK)
theorem si_enum2 {elts : List Expr} {kk : Nat} {tpos : Pos} (hK : g.K = X.K) (hg : Gl X "enumerate") (hm : X.mg "enumerate" = none) (hn : notStar e = true) (ha : SE g X W e m) :
    SI g X W (.Tuple elts kk tpos) (.Call (.Name "enumerate" p) [e] [] pos) (iEnum2 m) := by
  refine ⟨fun F as ρ μ σ H R r μ' h sr er post => wI (pi_enumA hg hm pa_wp (by rw [starEach_cons hn]; rfl)) ?_⟩
  show wpA X [e] σ H _
  have key : wpE X e σ H fun x H1 => ∃ a, x = .ref a ∧ ((∃ xs, SqL X.K H1 a xs ∧ R (Ite X.K a) H1) ∨ ∃ xs, SqT X.K H1 a xs ∧ R (IteT X.K a) H1) := by
    refine ha.then_ (show andThen _ _ = some (r, μ') from h) sr er (fun x e => by subst e; exact post) fun s1 μ1 F1 as1 v H1 h1 x1 sr1 er1 ra1 => ?_
    obtain ⟨F2, x2, sr2, rs2⟩ := root_ok sr1 ra1
    unfold finI at h1
    split at h1
    · rename_i d μ2 hd
      obtain ⟨F3, x3, sr3, r3⟩ := toD_rs sr2 rs2 hd
      split at h1
      · rename_i ds hds
        cases h1
        obtain ⟨l, h2, rfl⟩ := Option.map_eq_some_iff.mp hds
        unfold seqOf at h2
        split at h2
        · cases h2
          unfold Rep at r3
          obtain ⟨a, vs, rfl, h3, h4⟩ := r3
          exact ⟨a, rfl, .inl ⟨vs, SqL.of (sr3.sub _ _ h3), by rw [← hK]; exact post F3 as1 H1 _ ((x1.trans x2).trans x3) sr3 (jok_enum h3 h4)⟩⟩
        · cases h2
          unfold Rep at r3
          obtain ⟨a, vs, rfl, h3, h4⟩ := r3
          exact ⟨a, rfl, .inr ⟨vs, hK ▸ seqT_mono sr3.sub h3, by rw [← hK]; exact post F3 as1 H1 _ ((x1.trans x2).trans x3) sr3 (jok_enumT h3 h4)⟩⟩
        · cases h2
      · cases h1
    · cases h1
  exact wA (pa_cons pe_wp pa_nil (starEach_cons hn)) (wpE_mono key fun v H' ⟨a, e1, e2⟩ => ⟨a, by rw [e1], e2⟩)
end
end Sz
set_option Elab.async false
set_option linter.all false
set_option maxRecDepth 100000
set_option maxHeartbeats 4000000
namespace Sz
open PySem PySem.Spec PyProof.Rows L2
structure TbF (g : G) (w : World) (tabs : Nat → Option Tab) : Prop where
  ok : ∀ i tab, tabs i = some tab → ∃ es n, KDict g.K w (g.fad i) es n ∧ ∀ z : Str,
    (∀ d, tab.lookup z = some d → ∃ u v, PySem.W.nsIn g.K (g.fad i) z = some (some u) ∧ RelV v u ∧ ∀ F, Rep g F d v) ∧ (tab.lookup z = none → PySem.W.nsIn g.K (g.fad i) z = some none)
  keys : ∀ i tab, tabs i = some tab → He.dicW g.K (g.fad i) = some (He.keysIn w.params (tab.map (·.1)))
theorem keys_find {P : Params} {z : Str} : ∀ {l : List DictEntry} {ks : List Str}, l.map He.keyOf = He.keysIn P ks → ¬ z ∈ ks → l.find? (·.key.isStr z) = none
  | [], _, _, _ => rfl
  | e :: r, [], h, _ => by cases h
  | e :: r, k :: ks, h, hz => by
    have h1 : He.keyOf e :: r.map He.keyOf = some (k, PyData.keyHash P k) :: He.keysIn P ks := h
    injection h1 with h2 h3
    have ne : e.key.isStr z = false := by
      unfold He.keyOf at h2
      split at h2
      · rename_i x t q
        obtain ⟨h5, _⟩ := Prod.mk.inj (Option.some.inj h2)
        rw [q]
        subst h5
        show Value.isStr (.str x t) z = false
        rw [PySem.W.isStr_of]
        show (x == z) = false
        exact beq_eq_false_iff_ne.mpr fun c => hz (by rw [← c]; exact List.mem_cons_self)
      · cases h2
    rw [List.find?_cons, ne]
    exact keys_find h3 fun c => hz (List.mem_cons_of_mem _ c)
theorem keys_ref {P : Params} : ∀ {l : List DictEntry} {ks : List Str}, l.map He.keyOf = He.keysIn P ks → l.any (·.refKey) = false
  | [], _, _ => rfl
  | e :: r, [], h => by cases h
  | e :: r, k :: ks, h => by
    have h1 : He.keyOf e :: r.map He.keyOf = some (k, PyData.keyHash P k) :: He.keysIn P ks := h
    injection h1 with h2 h3
    have ne : e.refKey = false := by
      unfold He.keyOf at h2
      split at h2
      · rename_i x t q
        unfold DictEntry.refKey
        rw [q]
      · cases h2
    rw [List.any_cons, ne, keys_ref h3]
    rfl
/-- what the texts of a law stand on -/
structure TbX (g : G) (mg : Str → Option Value) (w : World) (frees globs : List Str) (cis : List (Str × Int)) (css : List (Str × Str)) (tabs : Nat → Option Tab) (fns : List Str) (tps : List (Str × List Str)) : Prop extends Tb g mg frees globs where
  tf : TbF g w tabs
  gi : ∀ x i, cis.lookup x = some i → ∃ t, mg x = some (.int i t)
  gs : ∀ x z, css.lookup x = some z → ∃ t, mg x = some (.str z t)
  gt : ∀ i tab, tabs i = some tab → mg (fns.getD i "") = some (.ref (g.fad i))
  gp : ∀ p, p ∈ tps → mg p.1 = some (.ref (He.ga g.K p.1)) ∧ tpB g.K p = true
theorem valB_ok {cls fns : List Str} {fls : List (List Str)} {tb : List (Addr × Str)} {K : PySem.W.Frag} {d : D} {o : Option (Option Value)} (h : valB fns K d o = true) : ∃ u v, o = some (some u) ∧ RelV v u ∧ ∀ F, Rep (gOf cls fls K fns tb) F d v := by
  unfold valB at h
  split at h
  · rename_i n a
    rw [beq_iff_eq.mp h]
    exact ⟨_, .ref _, rfl, rfl, fun F => by unfold Rep; rfl⟩
  · rename_i i j t
    rw [beq_iff_eq.mp h]
    exact ⟨_, .int _, rfl, ⟨t, rfl⟩, fun F => by unfold Rep; rfl⟩
  · rename_i s z t
    rw [beq_iff_eq.mp h]
    exact ⟨_, .str _, rfl, ⟨t, rfl⟩, fun F => by unfold Rep; rfl⟩
  · cases h
section
variable {chk : PySem.W.Frag → Bool} {fa : List He.Fa} {fn : List He.DefD} {ts : List He.Tab} {w : World} {K : PySem.W.Frag}
theorem SaysY.z (S : SaysY chk fa fn ts w K) : SaysZ chk fa fn K := congrArg (fun z : AlY => z.1) S
theorem SaysY.tab (S : SaysY chk fa fn ts w K) {t : He.Tab} (h : t ∈ ts) : He.dicW K (t.1 K) = some (He.keysIn w.params t.2) := by
  have e : ts.map (fun t => He.dicW K (t.1 K)) = ts.map fun t => some (He.keysIn w.params t.2) := congrArg (fun z : AlY => z.2) S
  exact (List.map_inj_left.mp e) t h
end
theorem dicW_keys {K : PySem.W.Frag} {w : World} {a : Addr} {ks : List Str} {z : Str} (h : He.dicW K a = some (He.keysIn w.params ks)) (hz : ¬ z ∈ ks) : PySem.W.nsIn K a z = some none := by
  unfold He.dicW at h
  cases q : K.lookup a with
  | none => rw [q] at h; cases h
  | some o =>
    obtain ⟨oc, od, dt, osl⟩ := o
    rw [q] at h
    cases oc with
    | type c =>
      cases od with
      | none =>
        cases dt with
        | dict es n =>
          have h1 : (match decide (c = "dict") && (osl.isEmpty && !(a == sysModules)) with
            | true => some (es.toList.map He.keyOf)
            | false => none) = some (He.keysIn w.params ks) := h
          split at h1
          · have e := Option.some.inj h1
            unfold PySem.W.nsIn
            rw [q]
            show (match es.toList.find? (·.key.isStr z) with
              | some e => some (some e.val)
              | none => if es.toList.any (·.refKey) = true then none else some none) = some none
            rw [keys_find e hz, keys_ref e]
            rfl
          · cases h1
        | _ => cases h
      | some b => cases dt <;> cases h
    | _ => cases od <;> cases dt <;> cases h
theorem lookup_mem {α β : Type} [BEq α] [LawfulBEq α] {x : α} {y : β} : ∀ {l : List (α × β)}, l.lookup x = some y → (x, y) ∈ l
  | [], h => by cases h
  | (a, b) :: l, h => by
    cases e : (x == a) with
    | true =>
      simp only [List.lookup, e] at h
      cases h
      rw [beq_iff_eq.mp e]
      exact List.mem_cons_self
    | false =>
      simp only [List.lookup, e] at h
      exact List.mem_cons_of_mem _ (lookup_mem h)
theorem lookup_none {α β : Type} [BEq α] [LawfulBEq α] {x : α} : ∀ {l : List (α × β)}, l.lookup x = none → ¬ x ∈ l.map (·.1)
  | [], _ => by simp
  | (a, b) :: l, h => by
    cases e : (x == a) with
    | true => simp only [List.lookup, e] at h; cases h
    | false =>
      simp only [List.lookup, e] at h
      intro hm
      rcases List.mem_cons.mp hm with z | z
      · rw [z] at e
        simp at e
      · exact lookup_none h z
theorem tbf_of {cls fns : List Str} {fls : List (List Str)} {tb : List (Addr × Str)} {tabs : List (Nat × Tab)} {chk : PySem.W.Frag → Bool} {fa : List He.Fa} {fn : List He.DefD} {w : World} {K : PySem.W.Frag} (S : SaysY chk fa fn (htabs fns tabs) w K) (h : tabB fns tabs K = true) : TbF (gOf cls fls K fns tb) w (tabsOf tabs) := by
  refine ⟨fun i tab ht => ?_, fun i tab ht => ?_⟩
  case refine_2 =>
    have hm := lookup_mem (show tabs.lookup i = some tab from ht)
    have hd := S.tab (t := (fun K => He.ga K (fns.getD i ""), tab.map (·.1))) (List.mem_map.mpr ⟨(i, tab), hm, rfl⟩)
    exact hd
  have hm := lookup_mem (show tabs.lookup i = some tab from ht)
  have hd := S.tab (t := (fun K => He.ga K (fns.getD i ""), tab.map (·.1))) (List.mem_map.mpr ⟨(i, tab), hm, rfl⟩)
  obtain ⟨es, n, kd⟩ := He.dicW_ok (w := w) hd
  refine ⟨es, n, kd, fun z => ⟨fun d hl => ?_, fun hl => dicW_keys (w := w) hd (lookup_none hl)⟩⟩
  have h2 := List.all_eq_true.mp (He.ba (List.all_eq_true.mp h (i, tab) hm)).2 (z, d) (lookup_mem hl)
  exact valB_ok h2
end Sz
namespace Sz
open PySem PySem.Spec PyProof.Rows L2
theorem FnC.gd {a b : Bool} {g : G} {P : Program} {w : World} {mg : Str → Option Value} {base : Heap} {k : Nat} {fi : FnI} {f : Addr} {sh : List (Nat × List Str)} (F : FnC a g P w mg base fi k f sh) (h : leB a b = true) : FnC b g P w mg base fi k f sh := by
  obtain ⟨fd, dvs, h1, h2, h3⟩ := F.ok
  exact ⟨fd, dvs, h1.gd h, h2, h3⟩
/-- what stands behind the head -/
theorem tbx_of {cls fns : List Str} {fls : List (List Str)} {tb : List (Addr × Str)} {tabs : List (Nat × Tab)} {chk : PySem.W.Frag → Bool} {frees globs : List Str} {cis : List (Str × Int)} {css : List (Str × Str)} {rest0 rest : List He.Fa} {fn : List He.DefD} {w : World} {K : PySem.W.Frag} {h : Heap} {mg : Str → Option Value} {tps : List (Str × List Str)}
    (e : rest = rest0 ++ (cis.map (fun p => He.Fa.int p.1 p.2) ++ css.map fun p => He.Fa.str p.1 p.2)) (KX : K.In h) (Gm : h.Ns mainGlobals mg) (S : SaysY chk (faOf frees globs rest) fn (htabs fns tabs) w K) (ht : tabB fns tabs K = true) (hp : tpsB tps K = true) :
    TbX (gOf cls fls K fns tb) mg w frees globs cis css (tabsOf tabs) fns tps := by
  refine ⟨tb_of rfl KX Gm S.z.says, tbf_of S ht, fun x i hx => ?_, fun x z hx => ?_, fun i tab hi => He.glo_ok KX Gm (He.ba (List.all_eq_true.mp ht (i, tab) (lookup_mem (show tabs.lookup i = some tab from hi)))).1, fun p hm => ⟨He.glo_ok KX Gm (He.ba (List.all_eq_true.mp hp p hm)).1, (He.ba (List.all_eq_true.mp hp p hm)).2⟩⟩
  · refine He.int_ok KX Gm (says_all S.z.says (f := .int x i) ?_)
    rw [e]
    exact List.mem_append_right _ (List.mem_append_right _ (List.mem_append_right _ (List.mem_append_right _ (List.mem_append_left _ (List.mem_map.mpr ⟨(x, i), lookup_mem hx, rfl⟩)))))
  · refine He.str_ok KX Gm (says_all S.z.says (f := .str x z) ?_)
    rw [e]
    exact List.mem_append_right _ (List.mem_append_right _ (List.mem_append_right _ (List.mem_append_right _ (List.mem_append_right _ (List.mem_map.mpr ⟨(x, z), lookup_mem hx, rfl⟩)))))
end Sz
namespace Sz
open PySem PySem.Spec PyProof.Rows L2
end Sz
set_option Elab.async false
set_option linter.all false
set_option maxRecDepth 100000
set_option maxHeartbeats 4000000
namespace Sz
open PySem PySem.Spec PyProof.Rows L2
theorem base_ok : ∀ b : Nat, ∃ B initId, ExcBaseFacts B (newOf b) initId (bmOf b)
  | 0 => ⟨_, _, PySem.F.excBase_ValueError⟩
  | 1 => ⟨_, _, PySem.F.excBase_ZeroDivisionError⟩
  | 2 => ⟨_, _, PySem.F.excBase_LookupError⟩
  | _ + 3 => ⟨_, _, PySem.F.excBase_IndexError⟩
theorem lkp_mem {α β : Type} [BEq α] [LawfulBEq α] {k : α} {b : β} : ∀ {l : List (α × β)}, l.lookup k = some b → (k, b) ∈ l
  | [], h => by cases h
  | (x, y) :: l, h => by
    unfold List.lookup at h
    split at h
    · rename_i q
      cases h
      rw [beq_iff_eq.mp q]
      exact List.mem_cons_self
    · exact List.mem_cons_of_mem _ (lkp_mem h)
end Sz
set_option Elab.async false
set_option linter.all false
set_option maxRecDepth 100000
set_option maxHeartbeats 4000000
namespace Sz
open PySem PySem.Spec L2
def slotM : Option (Option S) → Sto → Option R
  | some (some s), μ => some (.ok s, μ)
  | _, _ => none
theorem slotM_some {s : S} {μ : Sto} : slotM (some (some s)) μ = some (.ok s, μ) := Eq.trans rfl rfl
theorem mVar_ap {i : Nat} {ρ : En} {μ : Sto} : mVar i ρ μ = slotM ρ[i]? μ := by
  unfold mVar slotM
  rcases ρ[i]? with _ | _ | s <;> rfl
theorem mK_ap {d : D} {ρ : En} {μ : Sto} : mK d ρ μ = some (.ok (.val d), μ) := Eq.trans rfl rfl
theorem andThen_ok {α β : Type} {s : α} {μ : Sto} {f : α → Sto → Option (Except Ex β × Sto)} : andThen (some (.ok s, μ)) f = f s μ := Eq.trans rfl rfl
theorem andThen_err {α β : Type} {x : Ex} {μ : Sto} {f : α → Sto → Option (Except Ex β × Sto)} : andThen (some (.error x, μ)) f = some (.error x, μ) := Eq.trans rfl rfl
theorem andThen_if {α β : Type} {c : Prop} [Decidable c] {x y : Option (Except Ex α × Sto)} {f : α → Sto → Option (Except Ex β × Sto)} : andThen (if c then x else y) f = if c then andThen x f else andThen y f := by split <;> rfl
theorem exThen_ok {α : Type} {s : α} {μ : Sto} {ρ : En} {f : α → Sto → Option (Fl × En × Sto)} : exThen (some (.ok s, μ)) ρ f = f s μ := Eq.trans rfl rfl
theorem exThen_err {α : Type} {x : Ex} {μ : Sto} {ρ : En} {f : α → Sto → Option (Fl × En × Sto)} : exThen (some (.error x, μ)) ρ f = some (.ex x, ρ, μ) := Eq.trans rfl rfl
theorem exThen_if {α : Type} {c : Prop} [Decidable c] {x y : Option (Except Ex α × Sto)} {ρ : En} {f : α → Sto → Option (Fl × En × Sto)} : exThen (if c then x else y) ρ f = if c then exThen x ρ f else exThen y ρ f := by split <;> rfl
theorem vw_val {μ : Sto} {d : D} : vw μ (.val d) = some d := Eq.trans rfl rfl
theorem vw_fr {μ : Sto} {ds : List D} : vw μ (.fr ds) = some (.lst ds) := Eq.trans rfl rfl
def cellV : Option C → Option D
  | some (.lst ds) => some (.lst ds)
  | some (.frz d) => some d
  | _ => none
theorem vw_cell {μ : Sto} {k : Nat} : vw μ (.cell k) = cellV μ[k]? := by
  unfold vw cellV
  dsimp only
  all_goals (rcases μ[k]? with _ | c <;> first | rfl | (cases c <;> rfl))
theorem cellV_lst {ds : List D} : cellV (some (.lst ds)) = some (.lst ds) := Eq.trans rfl rfl
theorem cellV_frz {d : D} : cellV (some (.frz d)) = some d := Eq.trans rfl rfl
theorem rt_val {d : D} : rt (.val d) = .val d := Eq.trans rfl rfl
theorem rt_fr {ds : List D} : rt (.fr ds) = .val (.lst ds) := Eq.trans rfl rfl
theorem rt_cell {k : Nat} : rt (.cell k) = .cell k := Eq.trans rfl rfl
def fin2K (μ : Sto) : Option S → Option R
  | some s => some (.ok s, μ)
  | none => none
theorem fin2K_some {μ : Sto} {s : S} : fin2K μ (some s) = some (.ok s, μ) := Eq.trans rfl rfl
def opK (op : D → D → Option S) : Option D → Option D → Option S
  | some x, some y => op x y
  | _, _ => none
theorem opK_some {op : D → D → Option S} {x y : D} : opK op (some x) (some y) = op x y := Eq.trans rfl rfl
theorem fin2_ap {op : D → D → Option S} {μ : Sto} {s t : S} : fin2 op μ s t = fin2K μ (opK op (vw μ s) (vw μ t)) := by
  unfold fin2 opK fin2K
  rcases vw μ s with _ | x <;> rcases vw μ t with _ | y <;> first | rfl | (dsimp only; cases op x y <;> rfl)
def op1K (op : D → Option S) : Option D → Option S
  | some x => op x
  | _ => none
theorem op1K_some {op : D → Option S} {x : D} : op1K op (some x) = op x := Eq.trans rfl rfl
theorem fin1_ap {op : D → Option S} {μ : Sto} {s : S} : fin1 op μ s = fin2K μ (op1K op (vw μ s)) := by
  unfold fin1 op1K fin2K
  rcases vw μ s with _ | x
  · rfl
  · dsimp only
    all_goals (cases op x <;> rfl)
theorem mOp2_ap {op : D → D → Option S} {a b : ME} {ρ : En} {μ : Sto} : mOp2 op a b ρ μ = andThen (a ρ μ) fun s1 μ1 => andThen (b ρ μ1) fun s2 μ2 => fin2 op μ2 (rt s1) s2 := Eq.trans rfl rfl
theorem mOp1_ap {op : D → Option S} {a : ME} {ρ : En} {μ : Sto} : mOp1 op a ρ μ = andThen (a ρ μ) fun s1 μ1 => fin1 op μ1 s1 := Eq.trans rfl rfl
theorem add_ii {i j : Int} : dAdd (.int i) (.int j) = some (.val (.int (i + j))) := Eq.trans rfl rfl
theorem neg_i {i : Int} : dNeg (.int i) = some (.val (.int (-i))) := Eq.trans rfl rfl
theorem lt_ii {i j : Int} : dLt (.int i) (.int j) = some (.val (.bl (decide (i < j)))) := Eq.trans rfl rfl
theorem le_ii {i j : Int} : dLe (.int i) (.int j) = some (.val (.bl (decide (i ≤ j)))) := Eq.trans rfl rfl
theorem gt_ii {i j : Int} : dGt (.int i) (.int j) = some (.val (.bl (decide (j < i)))) := Eq.trans rfl rfl
theorem ge_ii {i j : Int} : dGe (.int i) (.int j) = some (.val (.bl (decide (j ≤ i)))) := Eq.trans rfl rfl
theorem eq_ii {i j : Int} : dEq (.int i) (.int j) = some (.val (.bl (decide (i = j)))) := by
  have : pyEq (.int i) (.int j) = some (decide (i = j)) := by
    show some (PyData.eqv (.int i) (.int j)) = _
    rfl
  unfold dEq
  simp only [this]
theorem ne_ii {i j : Int} : dNe (.int i) (.int j) = some (.val (.bl (!decide (i = j)))) := by
  have : pyEq (.int i) (.int j) = some (decide (i = j)) := by
    show some (PyData.eqv (.int i) (.int j)) = _
    rfl
  unfold dNe
  simp only [this]
/-- at most so many bits -/
def Bd (n : Nat) (i : Int) : Prop := i.natAbs < 2 ^ n
theorem Bd.mono {n m : Nat} {i : Int} (h : Bd n i) (e : n ≤ m) : Bd m i := Nat.lt_of_lt_of_le h (Nat.pow_le_pow_right (by decide) e)
theorem Bd.mul {n m : Nat} {i j : Int} (h : Bd n i) (g : Bd m j) : Bd (n + m) (i * j) := wide_lt h g
theorem Bd.add {n : Nat} {i j : Int} (h : Bd n i) (g : Bd n j) : Bd (n + 1) (i + j) := by
  unfold Bd at *
  rw [Nat.pow_succ]
  omega
theorem Bd.sub {n : Nat} {i j : Int} (h : Bd n i) (g : Bd n j) : Bd (n + 1) (i - j) := by
  unfold Bd at *
  rw [Nat.pow_succ]
  omega
theorem Bd.bits {n : Nat} {i : Int} (h : Bd n i) : Builtin.Int.intBits i ≤ n := by
  unfold Builtin.Int.intBits
  by_cases e : i = 0
  · rw [if_pos (by rw [e]; rfl)]; exact Nat.zero_le _
  · rw [if_neg (by simpa using e)]
    have h0 : i.natAbs ≠ 0 := by omega
    exact (Nat.log2_lt h0).mpr h
theorem mulOk_bd {n m : Nat} {i j : Int} (h : Bd n i) (g : Bd m j) (e : n + m ≤ 134217728) : mulOk i j = true := by
  have h1 := h.bits
  have h2 := g.bits
  apply mulOk_of
  have eb : bitsLine = 134217728 := by decide
  unfold IntMulOk
  intro z
  rw [Bool.and_eq_true] at z
  have z2 := z.2
  unfold Builtin.Int.intTooBig at z2
  have z3 := of_decide_eq_true z2
  rw [eb] at z3
  omega
/-- one factor short -/
theorem mulOk_right {i j : Int} (g : Bd 64 j) : mulOk i j = true := by
  have h2 := g.bits
  apply mulOk_of
  unfold IntMulOk
  intro z
  rw [Bool.and_eq_true, Bool.and_eq_true] at z
  have := of_decide_eq_true z.1.2
  have e : shortFactorBits = 64 := Eq.trans rfl rfl
  omega
theorem mulOk_left {i j : Int} (g : Bd 64 i) : mulOk i j = true := by
  have h2 := g.bits
  apply mulOk_of
  unfold IntMulOk
  intro z
  rw [Bool.and_eq_true, Bool.and_eq_true] at z
  have := of_decide_eq_true z.1.1
  have e : shortFactorBits = 64 := Eq.trans rfl rfl
  omega
theorem mul_ii {i j : Int} (h : mulOk i j = true) : dMul (.int i) (.int j) = some (.val (.int (i * j))) := by
  unfold dMul
  dsimp only
  rw [if_pos h]
theorem mul_bd {i j : Int} (n m : Nat) (h : Bd n i) (g : Bd m j) (e : n + m ≤ 134217728 := by decide) : dMul (.int i) (.int j) = some (.val (.int (i * j))) := mul_ii (mulOk_bd h g e)
theorem fdiv_ii {i j : Int} (n : Nat) (h0 : j ≠ 0) (h : Bd n j) (hn : n ≤ 9000 := by decide) : dFdiv (.int i) (.int j) = some (.val (.int (i.fdiv j))) := by
  unfold dFdiv
  dsimp only
  have : j.natAbs ≠ 0 := by omega
  exact if_pos ⟨h0, Nat.lt_of_lt_of_le ((Nat.log2_lt this).mpr h) hn⟩
theorem mod_ii {i j : Int} (h0 : j ≠ 0) : dMod (.int i) (.int j) = some (.val (.int (i.fmod j))) := by
  unfold dMod
  dsimp only
  rw [if_pos h0]
theorem pow_ii {i j : Int} (n : Nat) (h : Bd n i) (h0 : 0 ≤ j) (e : n * j.toNat ≤ 2 ^ 27) : dPow (.int i) (.int j) = some (.val (.int (i ^ j.toNat))) := by
  unfold dPow
  dsimp only
  have h1 := h.bits
  have h2 : Builtin.Int.intBits i * j.toNat ≤ n * j.toNat := Nat.mul_le_mul_right _ h1
  have h3 : (Builtin.Int.intBits i : Int) * (j.toNat : Int) ≤ 2 ^ 27 := by exact_mod_cast Nat.le_trans h2 e
  rw [Int.toNat_of_nonneg h0] at h3
  exact if_pos ⟨h0, h3⟩
theorem ix_lst {ds : List D} {i : Int} : dIx (.lst ds) (.int i) = (atI ds i).map .val := Eq.trans rfl rfl
theorem ix_tup {ds : List D} {i : Int} : dIx (.tup ds) (.int i) = (atI ds i).map .val := Eq.trans rfl rfl
theorem ix_scr {ns : List Int} {i : Int} : dIx (.scr ns) (.int i) = (atI ns i).map fun n => .val (.int n) := Eq.trans rfl rfl
theorem omap_some {α β : Type} {f : α → β} {a : α} : (some a).map f = some (f a) := Eq.trans rfl rfl
theorem atI_mem {α : Type} {l : List α} {i : Int} (h0 : 0 ≤ i) (h1 : i < l.length) : ∃ x, atI l i = some x ∧ x ∈ l := by
  have h2 : i.toNat < l.length := by omega
  refine ⟨l[i.toNat], ?_, List.getElem_mem h2⟩
  unfold atI ixN
  rw [if_pos h0, if_pos h1]
  show l[i.toNat]? = _
  exact List.getElem?_eq_getElem h2
theorem atI0 {α : Type} {a : α} {l : List α} : atI (a :: l) 0 = some a := by
  unfold atI ixN
  rw [if_pos (by decide), if_pos (by simp only [List.length_cons]; omega)]
  rfl
theorem atI1 {α : Type} {a b : α} {l : List α} : atI (a :: b :: l) 1 = some b := by
  unfold atI ixN
  rw [if_pos (by decide), if_pos (by simp only [List.length_cons]; omega)]
  rfl
theorem atI2 {α : Type} {a b c : α} {l : List α} : atI (a :: b :: c :: l) 2 = some c := by
  unfold atI ixN
  rw [if_pos (by decide), if_pos (by simp only [List.length_cons]; omega)]
  rfl
theorem bl?_bl {b : Bool} : bl? (.val (.bl b)) = some b := Eq.trans rfl rfl
def tBlK (μ : Sto) : Option Bool → Option (Except Ex Bool × Sto)
  | some b => some (.ok b, μ)
  | none => none
theorem tBlK_some {μ : Sto} {b : Bool} : tBlK μ (some b) = some (.ok b, μ) := Eq.trans rfl rfl
theorem tBl_ap {a : ME} {ρ : En} {μ : Sto} : tBl a ρ μ = andThen (a ρ μ) fun s μ1 => tBlK μ1 (bl? s) := by
  unfold tBl
  congr
theorem tNotM_ap {a : MT} {ρ : En} {μ : Sto} : tNotM a ρ μ = andThen (a ρ μ) fun b μ1 => some (.ok (!b), μ1) := Eq.trans rfl rfl
theorem tOrM_ap {a b : MT} {ρ : En} {μ : Sto} : tOrM a b ρ μ = andThen (a ρ μ) fun c μ1 => if c = true then some (.ok true, μ1) else b ρ μ1 := Eq.trans rfl rfl
theorem tTrue_ap {ρ : En} {μ : Sto} : tTrue ρ μ = some (.ok true, μ) := Eq.trans rfl rfl
def orK (μ : Sto) (x : Option R) : Option Bool → Option R
  | some false => x
  | some true => some (.ok (.val (.bl true)), μ)
  | none => none
theorem mOr_ap {a b : ME} {ρ : En} {μ : Sto} : mOr a b ρ μ = andThen (a ρ μ) fun s μ1 => orK μ1 (b ρ μ1) (bl? s) := by
  unfold mOr
  congr
theorem orK_some {μ : Sto} {x : Option R} {b : Bool} : orK μ x (some b) = if b = true then some (.ok (.val (.bl true)), μ) else x := by cases b <;> rfl
theorem mArgs_nil {ρ : En} {μ : Sto} : mArgs [] ρ μ = some (.ok [], μ) := Eq.trans rfl rfl
theorem mArgs_cons {m : ME} {ms : List ME} {ρ : En} {μ : Sto} : mArgs (m :: ms) ρ μ = andThen (m ρ μ) fun s μ1 => andThen (mArgs ms ρ μ1) fun ss μ2 => some (.ok (rt s :: ss), μ2) := Eq.trans rfl rfl
theorem mOwns_nil {ρ : En} {μ : Sto} : mOwns [] ρ μ = some (.ok [], μ) := Eq.trans rfl rfl
theorem mOwns_cons {fl : Bool} {m : ME} {ms : List (Bool × ME)} {ρ : En} {μ : Sto} : mOwns ((fl, m) :: ms) ρ μ = andThen (m ρ μ) fun s μ1 => andThen (mOwns ms ρ (own fl s μ1).2) fun ss μ2 => some (.ok ((own fl s μ1).1 :: ss), μ2) := Eq.trans rfl rfl
theorem mList_ap {ms : List ME} {ρ : En} {μ : Sto} : mList ms ρ μ = andThen (mArgs ms ρ μ) finL := Eq.trans rfl rfl
theorem mTup_ap {ms : List ME} {ρ : En} {μ : Sto} : mTup ms ρ μ = andThen (mArgs ms ρ μ) finT := Eq.trans rfl rfl
theorem mCallB_ap {op : List D → Option S} {ms : List ME} {ρ : En} {μ : Sto} : mCallB op ms ρ μ = andThen (mArgs ms ρ μ) (finB op) := Eq.trans rfl rfl
/-- all are values -/
def vals? : List S → Option (List D)
  | [] => some []
  | .val d :: ss => (vals? ss).map (d :: ·)
  | _ => none
theorem vals_toDs {μ : Sto} : ∀ {ss : List S} {ds : List D}, vals? ss = some ds → toDs μ ss = some (ds, μ)
  | [], ds, h => by cases h; rfl
  | s :: ss, ds, h => by
    cases s with
    | val d =>
      unfold vals? at h
      obtain ⟨r, h1, rfl⟩ := Option.map_eq_some_iff.mp h
      unfold toDs
      show (match toDs μ ss with | none => none | some (ds, μ2) => some (d :: ds, μ2)) = _
      rw [vals_toDs h1]
    | cell k => cases h
    | fr x => cases h
    | pot _ _ _ => cases h
    | any => cases h
theorem finL_vals {ss : List S} {ds : List D} {μ : Sto} (h : vals? ss = some ds) (hl : ds.length ≤ 1000) : finL ss μ = some (.ok (.fr ds), μ) := by
  unfold finL
  rw [vals_toDs h]
  show (if ds.length ≤ sizeLine then _ else _) = _
  rw [if_pos (Nat.le_trans hl (by decide))]
theorem finT_vals {ss : List S} {ds : List D} {μ : Sto} (h : vals? ss = some ds) (hl : ds.length ≤ 1000) : finT ss μ = some (.ok (.val (.tup ds)), μ) := by
  unfold finT
  rw [vals_toDs h]
  show (if ds.length ≤ sizeLine then _ else _) = _
  rw [if_pos (Nat.le_trans hl (by decide))]
/-- displays of values (short ones) -/
theorem finL1 {x0 : D} {μ : Sto} : finL [.val x0] μ = some (.ok (.fr [x0]), μ) := finL_vals rfl (by simp)
theorem finL2 {x0 x1 : D} {μ : Sto} : finL [.val x0, .val x1] μ = some (.ok (.fr [x0, x1]), μ) := finL_vals rfl (by simp)
theorem finL3 {x0 x1 x2 : D} {μ : Sto} : finL [.val x0, .val x1, .val x2] μ = some (.ok (.fr [x0, x1, x2]), μ) := finL_vals rfl (by simp)
theorem finL4 {x0 x1 x2 x3 : D} {μ : Sto} : finL [.val x0, .val x1, .val x2, .val x3] μ = some (.ok (.fr [x0, x1, x2, x3]), μ) := finL_vals rfl (by simp)
theorem finL5 {x0 x1 x2 x3 x4 : D} {μ : Sto} : finL [.val x0, .val x1, .val x2, .val x3, .val x4] μ = some (.ok (.fr [x0, x1, x2, x3, x4]), μ) := finL_vals rfl (by simp)
theorem finL6 {x0 x1 x2 x3 x4 x5 : D} {μ : Sto} : finL [.val x0, .val x1, .val x2, .val x3, .val x4, .val x5] μ = some (.ok (.fr [x0, x1, x2, x3, x4, x5]), μ) := finL_vals rfl (by simp)
theorem finL7 {x0 x1 x2 x3 x4 x5 x6 : D} {μ : Sto} : finL [.val x0, .val x1, .val x2, .val x3, .val x4, .val x5, .val x6] μ = some (.ok (.fr [x0, x1, x2, x3, x4, x5, x6]), μ) := finL_vals rfl (by simp)
theorem finL8 {x0 x1 x2 x3 x4 x5 x6 x7 : D} {μ : Sto} : finL [.val x0, .val x1, .val x2, .val x3, .val x4, .val x5, .val x6, .val x7] μ = some (.ok (.fr [x0, x1, x2, x3, x4, x5, x6, x7]), μ) := finL_vals rfl (by simp)
theorem finL9 {x0 x1 x2 x3 x4 x5 x6 x7 x8 : D} {μ : Sto} : finL [.val x0, .val x1, .val x2, .val x3, .val x4, .val x5, .val x6, .val x7, .val x8] μ = some (.ok (.fr [x0, x1, x2, x3, x4, x5, x6, x7, x8]), μ) := finL_vals rfl (by simp)
theorem finL10 {x0 x1 x2 x3 x4 x5 x6 x7 x8 x9 : D} {μ : Sto} : finL [.val x0, .val x1, .val x2, .val x3, .val x4, .val x5, .val x6, .val x7, .val x8, .val x9] μ = some (.ok (.fr [x0, x1, x2, x3, x4, x5, x6, x7, x8, x9]), μ) := finL_vals rfl (by simp)
theorem finL11 {x0 x1 x2 x3 x4 x5 x6 x7 x8 x9 x10 : D} {μ : Sto} : finL [.val x0, .val x1, .val x2, .val x3, .val x4, .val x5, .val x6, .val x7, .val x8, .val x9, .val x10] μ = some (.ok (.fr [x0, x1, x2, x3, x4, x5, x6, x7, x8, x9, x10]), μ) := finL_vals rfl (by simp)
theorem finL12 {x0 x1 x2 x3 x4 x5 x6 x7 x8 x9 x10 x11 : D} {μ : Sto} : finL [.val x0, .val x1, .val x2, .val x3, .val x4, .val x5, .val x6, .val x7, .val x8, .val x9, .val x10, .val x11] μ = some (.ok (.fr [x0, x1, x2, x3, x4, x5, x6, x7, x8, x9, x10, x11]), μ) := finL_vals rfl (by simp)
theorem finL13 {x0 x1 x2 x3 x4 x5 x6 x7 x8 x9 x10 x11 x12 : D} {μ : Sto} : finL [.val x0, .val x1, .val x2, .val x3, .val x4, .val x5, .val x6, .val x7, .val x8, .val x9, .val x10, .val x11, .val x12] μ = some (.ok (.fr [x0, x1, x2, x3, x4, x5, x6, x7, x8, x9, x10, x11, x12]), μ) := finL_vals rfl (by simp)
theorem finL14 {x0 x1 x2 x3 x4 x5 x6 x7 x8 x9 x10 x11 x12 x13 : D} {μ : Sto} : finL [.val x0, .val x1, .val x2, .val x3, .val x4, .val x5, .val x6, .val x7, .val x8, .val x9, .val x10, .val x11, .val x12, .val x13] μ = some (.ok (.fr [x0, x1, x2, x3, x4, x5, x6, x7, x8, x9, x10, x11, x12, x13]), μ) := finL_vals rfl (by simp)
theorem finL15 {x0 x1 x2 x3 x4 x5 x6 x7 x8 x9 x10 x11 x12 x13 x14 : D} {μ : Sto} : finL [.val x0, .val x1, .val x2, .val x3, .val x4, .val x5, .val x6, .val x7, .val x8, .val x9, .val x10, .val x11, .val x12, .val x13, .val x14] μ = some (.ok (.fr [x0, x1, x2, x3, x4, x5, x6, x7, x8, x9, x10, x11, x12, x13, x14]), μ) := finL_vals rfl (by simp)
theorem finL16 {x0 x1 x2 x3 x4 x5 x6 x7 x8 x9 x10 x11 x12 x13 x14 x15 : D} {μ : Sto} : finL [.val x0, .val x1, .val x2, .val x3, .val x4, .val x5, .val x6, .val x7, .val x8, .val x9, .val x10, .val x11, .val x12, .val x13, .val x14, .val x15] μ = some (.ok (.fr [x0, x1, x2, x3, x4, x5, x6, x7, x8, x9, x10, x11, x12, x13, x14, x15]), μ) := finL_vals rfl (by simp)
theorem finT1 {x0 : D} {μ : Sto} : finT [.val x0] μ = some (.ok (.val (.tup [x0])), μ) := finT_vals rfl (by simp)
theorem finT2 {x0 x1 : D} {μ : Sto} : finT [.val x0, .val x1] μ = some (.ok (.val (.tup [x0, x1])), μ) := finT_vals rfl (by simp)
theorem finT3 {x0 x1 x2 : D} {μ : Sto} : finT [.val x0, .val x1, .val x2] μ = some (.ok (.val (.tup [x0, x1, x2])), μ) := finT_vals rfl (by simp)
theorem finT4 {x0 x1 x2 x3 : D} {μ : Sto} : finT [.val x0, .val x1, .val x2, .val x3] μ = some (.ok (.val (.tup [x0, x1, x2, x3])), μ) := finT_vals rfl (by simp)
theorem finT5 {x0 x1 x2 x3 x4 : D} {μ : Sto} : finT [.val x0, .val x1, .val x2, .val x3, .val x4] μ = some (.ok (.val (.tup [x0, x1, x2, x3, x4])), μ) := finT_vals rfl (by simp)
theorem finT6 {x0 x1 x2 x3 x4 x5 : D} {μ : Sto} : finT [.val x0, .val x1, .val x2, .val x3, .val x4, .val x5] μ = some (.ok (.val (.tup [x0, x1, x2, x3, x4, x5])), μ) := finT_vals rfl (by simp)
theorem finT7 {x0 x1 x2 x3 x4 x5 x6 : D} {μ : Sto} : finT [.val x0, .val x1, .val x2, .val x3, .val x4, .val x5, .val x6] μ = some (.ok (.val (.tup [x0, x1, x2, x3, x4, x5, x6])), μ) := finT_vals rfl (by simp)
theorem finT8 {x0 x1 x2 x3 x4 x5 x6 x7 : D} {μ : Sto} : finT [.val x0, .val x1, .val x2, .val x3, .val x4, .val x5, .val x6, .val x7] μ = some (.ok (.val (.tup [x0, x1, x2, x3, x4, x5, x6, x7])), μ) := finT_vals rfl (by simp)
def vwK : Option D → Option (List D) → Option (List D)
  | some d, some ds => some (d :: ds)
  | _, _ => none
theorem vwK_some {d : D} {ds : List D} : vwK (some d) (some ds) = some (d :: ds) := Eq.trans rfl rfl
theorem vws_nil {μ : Sto} : vws μ [] = some [] := Eq.trans rfl rfl
theorem vws_cons {μ : Sto} {s : S} {ss : List S} : vws μ (s :: ss) = vwK (vw μ s) (vws μ ss) := by
  show (match vw μ s, vws μ ss with
    | some d, some ds => some (d :: ds)
    | _, _ => none) = _
  unfold vwK
  rcases vw μ s with _ | d
  · rfl
  · rcases vws μ ss with _ | ds <;> rfl
def opsK (op : List D → Option S) : Option (List D) → Option S
  | some xs => op xs
  | none => none
theorem opsK_some {op : List D → Option S} {xs : List D} : opsK op (some xs) = op xs := Eq.trans rfl rfl
theorem finB_ap {op : List D → Option S} {ss : List S} {μ : Sto} : finB op ss μ = fin2K μ (opsK op (vws μ ss)) := by
  unfold finB opsK fin2K
  rcases vws μ ss with _ | xs
  · rfl
  · dsimp only
    all_goals (cases op xs <;> rfl)
theorem len_scr {ns : List Int} : bLen [.scr ns] = some (.val (.int ns.length)) := Eq.trans rfl rfl
theorem len_lst {ns : List D} : bLen [.lst ns] = some (.val (.int ns.length)) := Eq.trans rfl rfl
theorem len_tup {ns : List D} : bLen [.tup ns] = some (.val (.int ns.length)) := Eq.trans rfl rfl
theorem min_ii {i j : Int} : bMin [.int i, .int j] = some (.val (.int (if j < i then j else i))) := Eq.trans rfl rfl
theorem int_b {b : Bool} : bInt [.bl b] = some (.val (.int (if b = true then 1 else 0))) := Eq.trans rfl rfl
theorem int_i {i : Int} : bInt [.int i] = some (.val (.int i)) := Eq.trans rfl rfl
def seqK : Option (Fl × En × Sto) → MS → Option (Fl × En × Sto)
  | some (.nx, ρ, μ), b => b ρ μ
  | r, _ => r
theorem seqK_nx {ρ : En} {μ : Sto} {b : MS} : seqK (some (.nx, ρ, μ)) b = b ρ μ := Eq.trans rfl rfl
theorem seqK_rt {s : S} {ρ : En} {μ : Sto} {b : MS} : seqK (some (.rt s, ρ, μ)) b = some (.rt s, ρ, μ) := Eq.trans rfl rfl
theorem seqK_ex {x : Ex} {ρ : En} {μ : Sto} {b : MS} : seqK (some (.ex x, ρ, μ)) b = some (.ex x, ρ, μ) := Eq.trans rfl rfl
theorem seqK_bk {ρ : En} {μ : Sto} {b : MS} : seqK (some (.bk, ρ, μ)) b = some (.bk, ρ, μ) := Eq.trans rfl rfl
theorem seqK_ct {ρ : En} {μ : Sto} {b : MS} : seqK (some (.ct, ρ, μ)) b = some (.ct, ρ, μ) := Eq.trans rfl rfl
theorem seqK_if {c : Prop} [Decidable c] {x y : Option (Fl × En × Sto)} {b : MS} : seqK (if c then x else y) b = if c then seqK x b else seqK y b := by split <;> rfl
theorem sSeq_ap {a b : MS} {ρ : En} {μ : Sto} : sSeq a b ρ μ = seqK (a ρ μ) b := by
  unfold sSeq seqK
  rcases a ρ μ with _ | ⟨fl, ρ1, μ1⟩
  · rfl
  · cases fl <;> rfl
theorem sNil_ap {ρ : En} {μ : Sto} : sNil ρ μ = some (.nx, ρ, μ) := Eq.trans rfl rfl
theorem sRet_ap {m : ME} {ρ : En} {μ : Sto} : sRet m ρ μ = exThen (m ρ μ) ρ fun s μ1 => some (.rt s, ρ, μ1) := Eq.trans rfl rfl
theorem sIf_ap {t : MT} {a b : MS} {ρ : En} {μ : Sto} : sIf t a b ρ μ = exThen (t ρ μ) ρ fun c μ1 => if c = true then a ρ μ1 else b ρ μ1 := Eq.trans rfl rfl
theorem sExpr_ap {m : ME} {ρ : En} {μ : Sto} : sExpr m ρ μ = exThen (m ρ μ) ρ fun _ μ1 => some (.nx, ρ, μ1) := Eq.trans rfl rfl
def nxK : Option (En × Sto) → Option (Fl × En × Sto)
  | some (ρ, μ) => some (.nx, ρ, μ)
  | none => none
theorem nxK_some {ρ : En} {μ : Sto} : nxK (some (ρ, μ)) = some (.nx, ρ, μ) := Eq.trans rfl rfl
theorem sAsg_ap {t : MG} {m : ME} {ρ : En} {μ : Sto} : sAsg t m ρ μ = exThen (m ρ μ) ρ fun s μ1 => nxK (t s ρ μ1) := by
  unfold sAsg
  congr
theorem gNm_ap {i : Nat} {fl : Bool} {s : S} {ρ : En} {μ : Sto} : gNm i fl s ρ μ = some (ρ.set i (some (own fl s μ).1), (own fl s μ).2) := Eq.trans rfl rfl
theorem own_false {s : S} {μ : Sto} : own false s μ = (rt s, μ) := by
  cases s with
  | pot j is ds => cases j <;> rfl
  | _ => rfl
theorem own_val {fl : Bool} {d : D} {μ : Sto} : own fl (.val d) μ = (.val d, μ) := by cases fl <;> rfl
theorem own_cell {fl : Bool} {k : Nat} {μ : Sto} : own fl (.cell k) μ = (.cell k, μ) := by cases fl <;> rfl
theorem own_fr {ds : List D} {μ : Sto} : own true (.fr ds) μ = (.cell μ.length, μ ++ [.lst ds]) := Eq.trans rfl rfl
def par2K (i j : Nat) (ρ : En) (μ : Sto) : List S → Option (Fl × En × Sto)
  | [s, t] => some (.nx, (ρ.set i (some s)).set j (some t), μ)
  | _ => none
def par3K (i j l : Nat) (ρ : En) (μ : Sto) : List S → Option (Fl × En × Sto)
  | [s, t, u] => some (.nx, ((ρ.set i (some s)).set j (some t)).set l (some u), μ)
  | _ => none
theorem sPar2_ap {i j : Nat} {ms : List (Bool × ME)} {ρ : En} {μ : Sto} : sPar2 i j ms ρ μ = exThen (mOwns ms ρ μ) ρ fun ss μ1 => par2K i j ρ μ1 ss := by
  unfold sPar2
  congr
theorem sPar3_ap {i j l : Nat} {ms : List (Bool × ME)} {ρ : En} {μ : Sto} : sPar3 i j l ms ρ μ = exThen (mOwns ms ρ μ) ρ fun ss μ1 => par3K i j l ρ μ1 ss := by
  unfold sPar3
  congr
theorem par2K_ap {i j : Nat} {ρ : En} {μ : Sto} {s t : S} : par2K i j ρ μ [s, t] = some (.nx, (ρ.set i (some s)).set j (some t), μ) := Eq.trans rfl rfl
theorem par3K_ap {i j l : Nat} {ρ : En} {μ : Sto} {s t u : S} : par3K i j l ρ μ [s, t, u] = some (.nx, ((ρ.set i (some s)).set j (some t)).set l (some u), μ) := Eq.trans rfl rfl
theorem gVals_nil {ρ : En} {μ : Sto} : gVals [] [] ρ μ = some (ρ, μ) := Eq.trans rfl rfl
def gVK (ts : List MG) (ds : List D) : Option (En × Sto) → Option (En × Sto)
  | some (ρ1, μ1) => gVals ts ds ρ1 μ1
  | none => none
theorem gVK_some {ts : List MG} {ds : List D} {ρ : En} {μ : Sto} : gVK ts ds (some (ρ, μ)) = gVals ts ds ρ μ := Eq.trans rfl rfl
theorem gVals_cons {t : MG} {ts : List MG} {d : D} {ds : List D} {ρ : En} {μ : Sto} : gVals (t :: ts) (d :: ds) ρ μ = gVK ts ds (t (.val d) ρ μ) := by
  show (match t (.val d) ρ μ with | some (ρ1, μ1) => gVals ts ds ρ1 μ1 | none => none) = _
  rcases t (.val d) ρ μ with _ | ⟨_, _⟩ <;> rfl
theorem gTu_tup {ts : List MG} {ds : List D} {ρ : En} {μ : Sto} : gTu ts (.val (.tup ds)) ρ μ = gVals ts ds ρ μ := Eq.trans rfl rfl
theorem gTu_lst {ts : List MG} {ds : List D} {ρ : En} {μ : Sto} : gTu ts (.val (.lst ds)) ρ μ = gVals ts ds ρ μ := Eq.trans rfl rfl
theorem gTu_fr {ts : List MG} {ds : List D} {ρ : En} {μ : Sto} : gTu ts (.fr ds) ρ μ = gVals ts ds ρ μ := Eq.trans rfl rfl
/-- l[i] = v of a cell -/
theorem gSub_cell {o i : ME} {s : S} {ρ : En} {μ : Sto} {d : D} {k p : Nat} {j : Int} {ds : List D} (hs : rt s = .val d) (ho : o ρ μ = some (.ok (.cell k), μ)) (hi : i ρ μ = some (.ok (.val (.int j)), μ)) (hk : μ[k]? = some (.lst ds)) (hp : ixN ds.length j = some p) :
    gSubM o i s ρ μ = some (ρ, μ.set k (.lst (ds.set p d))) := by
  unfold gSubM
  rw [hs]
  unfold toD
  dsimp only
  rw [ho]
  dsimp only
  rw [hi]
  dsimp only
  rw [show rt (.cell k) = .cell k from rfl, show vw μ (.val (.int j)) = some (.int j) from rfl]
  dsimp only
  rw [hk]
  dsimp only
  rw [hp]
theorem finF_nx {n : Nat} {ρ : En} {μ : Sto} : finF n (some (.nx, ρ, μ)) = some (.ok (.val .non), μ.take n) := Eq.trans rfl rfl
theorem finF_ex {n : Nat} {ρ : En} {μ : Sto} {x : Ex} : finF n (some (.ex x, ρ, μ)) = some (.error x, μ.take n) := Eq.trans rfl rfl
theorem finF_rt {n : Nat} {ρ : En} {μ : Sto} {s : S} : finF n (some (.rt s, ρ, μ)) = finR n μ s := Eq.trans rfl rfl
theorem finR_val {n : Nat} {μ : Sto} {d : D} : finR n μ (.val d) = some (.ok (.val d), μ.take n) := Eq.trans rfl rfl
def chK (op' : D → D → Option S) (c : ME) (s2 : S) (ρ : En) (μ : Sto) : Option Bool → Option R
  | some true => andThen (c ρ μ) fun s4 μ4 => fin2 op' μ4 s2 s4
  | some false => some (.ok (.val (.bl false)), μ)
  | none => none
theorem chK_some {op' : D → D → Option S} {c : ME} {s2 : S} {ρ : En} {μ : Sto} {b : Bool} : chK op' c s2 ρ μ (some b) = if b = true then andThen (c ρ μ) (fun s4 μ4 => fin2 op' μ4 s2 s4) else some (.ok (.val (.bl false)), μ) := by cases b <;> rfl
theorem mChain_ap {op op' : D → D → Option S} {a b c : ME} {ρ : En} {μ : Sto} : mChain op op' a b c ρ μ = andThen (a ρ μ) fun s1 μ1 => andThen (b ρ μ1) fun s2 μ2 => andThen (fin2 op μ2 (rt s1) (rt s2)) fun s3 μ3 => chK op' c (rt s2) ρ μ3 (bl? s3) := Eq.trans rfl rfl
theorem finR_fr {n : Nat} {μ : Sto} {d : List D} : finR n μ (.fr d) = some (.ok (.fr d), μ.take n) := Eq.trans rfl rfl
theorem finF_if {n : Nat} {c : Prop} [Decidable c] {x y : Option (Fl × En × Sto)} : finF n (if c then x else y) = if c then finF n x else finF n y := by split <;> rfl
theorem mCallF_ap {fi : FnI} {n : Nat} {ks : List Str} {ms kms : List ME} {ρ : En} {μ : Sto} : mCallF fi n ks ms kms ρ μ = andThen (mArgs ms ρ μ) fun ss μ1 => andThen (mArgs kms ρ μ1) fun ts μ2 => callF fi n ks ss ts μ2 := Eq.trans rfl rfl
theorem callF_eq {fi : FnI} {n : Nat} {ks : List Str} {ss ts bs : List S} {μ : Sto} (h1 : ss.length = n) (h2 : ts.length = ks.length) (hb : bindG ks ss ts (fi.dfl.map .val) fi.ps.length fi.ps 0 = some bs) : callF fi n ks ss ts μ = fi.sem bs μ := by
  unfold callF
  rw [if_pos ⟨h1, h2⟩, hb]
theorem mAttr_ap {fls : List (List Str)} {f : Str} {a : ME} {ρ : En} {μ : Sto} : mAttr fls f a ρ μ = andThen (a ρ μ) (finA fls f) := Eq.trans rfl rfl
def fldK (μ : Sto) (fs : List D) : Option Nat → Option R
  | some k => (match fs[k]? with
    | some d => some (.ok (.val d), μ)
    | none => none)
  | none => none
theorem finA_obj {fls : List (List Str)} {f : Str} {c : Nat} {fs : List D} {μ : Sto} : finA fls f (.val (.obj c fs)) μ = fldK μ fs (fldIx fls c f) := by
  unfold finA fldK
  dsimp only
  all_goals (rcases fldIx fls c f with _ | k <;> first | rfl | (dsimp only; all_goals (rcases fs[k]? with _ | d <;> rfl)))
theorem ite_true' {α : Type} {x y : α} : (if (true = true) then x else y) = x := if_pos rfl
theorem ite_false' {α : Type} {x y : α} : (if (false = true) then x else y) = y := if_neg Bool.false_ne_true
theorem ite_T {α : Type} {h : Decidable True} {x y : α} : @ite α True h x y = x := if_pos trivial
theorem ite_F {α : Type} {h : Decidable False} {x y : α} : @ite α False h x y = y := if_neg id
def forK (t : MG) (b : MS) (ds : List D) : Option (Fl × En × Sto) → Option (Fl × En × Sto)
  | some (.nx, ρ2, μ2) => floop t b ds ρ2 μ2
  | some (.ct, ρ2, μ2) => floop t b ds ρ2 μ2
  | some (.bk, ρ2, μ2) => some (.nx, ρ2, μ2)
  | r => r
theorem floop_cons {t : MG} {b : MS} {d : D} {ds : List D} {ρ ρ1 : En} {μ μ1 : Sto} (h : t (.val d) ρ μ = some (ρ1, μ1)) : floop t b (d :: ds) ρ μ = forK t b ds (b ρ1 μ1) := by
  show (match t (.val d) ρ μ with
    | none => none
    | some (ρ1, μ1) => match b ρ1 μ1 with
      | some (.nx, ρ2, μ2) => floop t b ds ρ2 μ2
      | some (.ct, ρ2, μ2) => floop t b ds ρ2 μ2
      | some (.bk, ρ2, μ2) => some (.nx, ρ2, μ2)
      | r => r) = _
  rw [h]
  show (match b ρ1 μ1 with
      | some (.nx, ρ2, μ2) => floop t b ds ρ2 μ2
      | some (.ct, ρ2, μ2) => floop t b ds ρ2 μ2
      | some (.bk, ρ2, μ2) => some (.nx, ρ2, μ2)
      | r => r) = _
  unfold forK
  rcases b ρ1 μ1 with _ | ⟨fl, ρ2, μ2⟩
  · rfl
  · cases fl <;> rfl
theorem sFor_ap {i : MI} {t : MG} {b : MS} {ρ : En} {μ : Sto} : sFor i t b ρ μ = exThen (i ρ μ) ρ fun ds μ1 => floop t b ds ρ μ1 := Eq.trans rfl rfl
theorem iVal_ap {m : ME} {ρ : En} {μ : Sto} : iVal m ρ μ = andThen (m ρ μ) (finI itemsOf) := Eq.trans rfl rfl
theorem finI_lst {ds : List D} {μ : Sto} : finI itemsOf (.val (.lst ds)) μ = some (.ok ds, μ) := Eq.trans rfl rfl
theorem finI_fr {ds : List D} {μ : Sto} : finI itemsOf (.fr ds) μ = some (.ok ds, μ) := Eq.trans rfl rfl
theorem finI_tup {ds : List D} {μ : Sto} : finI itemsOf (.val (.tup ds)) μ = some (.ok ds, μ) := Eq.trans rfl rfl
theorem iRange1_eq {a : ME} {ρ : En} {μ μ1 : Sto} {j : Int} (h : a ρ μ = some (.ok (.val (.int j)), μ1)) (hj : inR j = true) : iRange1 a ρ μ = some (.ok (rangeD 0 j.toNat), μ1) := by
  unfold iRange1
  rw [mArgs_cons, h]
  show (if inR j = true then _ else _) = _
  rw [if_pos hj]
/-- a hand at k, drawn from at most n times -/
def HandAt (μ : Sto) (k n : Nat) : Prop := ∃ a b c : Int, μ[k]? = some (.lst [.int a, .int b, .int c]) ∧ 0 ≤ b ∧ b < 2 ^ 61 ∧ 0 ≤ c ∧ c ≤ n
/-- only k's cell is otherwise -/
def Upd (k : Nat) (μ μ' : Sto) : Prop := μ'.length = μ.length ∧ ∀ j, j ≠ k → μ'[j]? = μ[j]?
theorem Upd.refl {k : Nat} {μ : Sto} : Upd k μ μ := ⟨rfl, fun _ _ => rfl⟩
theorem Upd.trans {k : Nat} {μ μ1 μ2 : Sto} (a : Upd k μ μ1) (b : Upd k μ1 μ2) : Upd k μ μ2 := ⟨b.1.trans a.1, fun j h => (b.2 j h).trans (a.2 j h)⟩
theorem Upd.set {k : Nat} {μ : Sto} {c : C} : Upd k μ (μ.set k c) := ⟨List.length_set, fun j h => List.getElem?_set_ne (Ne.symm h)⟩
theorem Upd.take {k : Nat} {μ μ' : Sto} (h : Upd k μ μ') : μ'.take μ.length = μ' := List.take_of_length_le (Nat.le_of_eq h.1)
theorem HandAt.mono {μ : Sto} {k n m : Nat} (h : HandAt μ k n) (e : n ≤ m) : HandAt μ k m := by
  obtain ⟨a, b, c, h1, h2, h3, h4, h5⟩ := h
  exact ⟨a, b, c, h1, h2, h3, h4, by omega⟩
theorem get_set {μ : Sto} {k : Nat} {x c : C} (h : μ[k]? = some x) : (μ.set k c)[k]? = some c := List.getElem?_set_self (List.getElem?_eq_some_iff.mp h).1
theorem get_end {α : Type} {μ : List α} {x : α} : (μ ++ [x])[μ.length]? = some x := by rw [List.getElem?_append_right (Nat.le_refl _), Nat.sub_self]; rfl
theorem set_end {α : Type} {μ : List α} {x y : α} : (μ ++ [x]).set μ.length y = μ ++ [y] := by
  rw [List.set_append_right _ _ (Nat.le_refl _), Nat.sub_self]; rfl
theorem take_end {α : Type} {μ : List α} {x : α} : (μ ++ [x]).take μ.length = μ := by rw [List.take_left]
theorem mComp_ap {i : MI} {t : MG} {c : MT} {el : ME} {ow : List Nat} {ρ : En} {μ : Sto} : mComp i t c el ow ρ μ = andThen (i ρ μ) fun ds μ1 => finC μ1.length (cloop t c el (wipeE ρ ow) μ1.length ds (μ1 ++ [.lst []])) := Eq.trans rfl rfl
theorem cput_end {μ : Sto} {acc : List D} {d : D} (h : acc.length < 1000) : cput μ.length (.val d) (μ ++ [.lst acc]) = some (μ ++ [.lst (acc ++ [d])]) := by
  have e : toD (μ ++ [C.lst acc]) (rt (.val d)) = some (d, μ ++ [C.lst acc]) := Eq.trans rfl rfl
  unfold cput
  rw [e]
  dsimp only
  rw [get_end]
  dsimp only
  rw [if_pos (Nat.lt_of_lt_of_le h (by decide)), set_end]
theorem cloop_map {t : MG} {el : ME} {ρ : En} {μ : Sto} (f : D → D) : ∀ (ds acc : List D), acc.length + ds.length ≤ 1000 → (∀ d ∈ ds, ∀ ν : Sto, ∃ ρ', t (.val d) ρ ν = some (ρ', ν) ∧ el ρ' ν = some (.ok (.val (f d)), ν)) →
    cloop t tTrue el ρ μ.length ds (μ ++ [.lst acc]) = some (μ ++ [.lst (acc ++ ds.map f)])
  | [], acc, _, _ => by rw [List.map_nil, List.append_nil]; rfl
  | d :: ds, acc, hl, h => by
    obtain ⟨ρ', h1, h2⟩ := h d List.mem_cons_self (μ ++ [.lst acc])
    rw [List.length_cons] at hl
    unfold cloop
    rw [h1]
    dsimp only
    rw [tTrue_ap]
    dsimp only
    rw [h2]
    dsimp only
    rw [cput_end (by omega)]
    dsimp only
    rw [cloop_map f ds (acc ++ [f d]) (by rw [List.length_append, List.length_singleton]; omega) (fun x hx => h x (List.mem_cons_of_mem _ hx)), List.append_assoc]
    rfl
def lmK (op : List D → List D → Option (D × List D)) (ms : List ME) (ρ : En) (μ1 : Sto) : S → Option R
  | .cell k => if isLst μ1[k]? = true then andThen (mArgs ms ρ μ1) (finLm op k) else none
  | _ => none
theorem mLm_ap {op : List D → List D → Option (D × List D)} {o : ME} {ms : List ME} {ρ : En} {μ : Sto} : mLm op o ms ρ μ = andThen (o ρ μ) fun s μ1 => lmK op ms ρ μ1 (rt s) := Eq.trans rfl rfl
theorem lmK_cell {op : List D → List D → Option (D × List D)} {ms : List ME} {ρ : En} {μ1 : Sto} {k : Nat} : lmK op ms ρ μ1 (.cell k) = if isLst μ1[k]? = true then andThen (mArgs ms ρ μ1) (finLm op k) else none := Eq.trans rfl rfl
theorem isLst_lst {xs : List D} : isLst (some (.lst xs)) = true := Eq.trans rfl rfl
def lm4K (k : Nat) (μ : Sto) : Option (D × List D) → Option R
  | some (r, ys) => some (.ok (.val r), μ.set k (.lst ys))
  | none => none
def lm3K (op : List D → List D → Option (D × List D)) (ds : List D) (k : Nat) (μ : Sto) : Option C → Option R
  | some (.lst xs) => lm4K k μ (op xs ds)
  | _ => none
theorem finLm_of {op : List D → List D → Option (D × List D)} {ss : List S} {ds : List D} {k : Nat} {μ : Sto} (h : vals? ss = some ds) : finLm op k ss μ = lm3K op ds k μ μ[k]? := by
  unfold finLm
  rw [vals_toDs h]
  dsimp only
  unfold lm3K
  rcases μ[k]? with _ | c
  · rfl
  · cases c with
    | lst xs =>
      dsimp only
      unfold lm4K
      rcases op xs ds with _ | ⟨_, _⟩ <;> rfl
    | frz _ => rfl
    | ins _ _ => rfl
    | pot _ _ => rfl
    | dct _ => rfl
    | bk _ _ => rfl
theorem finLm0 {op : List D → List D → Option (D × List D)} {k : Nat} {μ : Sto} : finLm op k [] μ = lm3K op [] k μ μ[k]? := finLm_of rfl
theorem finLm1 {op : List D → List D → Option (D × List D)} {d : D} {k : Nat} {μ : Sto} : finLm op k [.val d] μ = lm3K op [d] k μ μ[k]? := finLm_of rfl
theorem finLm2 {op : List D → List D → Option (D × List D)} {d e : D} {k : Nat} {μ : Sto} : finLm op k [.val d, .val e] μ = lm3K op [d, e] k μ μ[k]? := finLm_of rfl
theorem lm3K_lst {op : List D → List D → Option (D × List D)} {xs ds : List D} {k : Nat} {μ : Sto} : lm3K op ds k μ (some (.lst xs)) = lm4K k μ (op xs ds) := Eq.trans rfl rfl
theorem lm4K_some {r : D} {ys : List D} {k : Nat} {μ : Sto} : lm4K k μ (some (r, ys)) = some (.ok (.val r), μ.set k (.lst ys)) := Eq.trans rfl rfl
theorem lApp_ok {xs : List D} {d : D} (h : xs.length < 1000) : lApp xs [d] = some (.non, xs ++ [d]) := by
  show (if xs.length < sizeLine then _ else _) = _
  exact if_pos (Nat.lt_of_lt_of_le h (by decide))
theorem add_ll {a b : List D} (h : a.length + b.length ≤ 1000) : dAdd (.lst a) (.lst b) = some (.fr (a ++ b)) := by
  show (if a.length + b.length ≤ sizeLine then _ else _) = _
  exact if_pos (Nat.le_trans h (by decide))
theorem finI_end {μ : Sto} {ds : List D} : finI itemsOf (.cell μ.length) (μ ++ [.lst ds]) = some (.ok ds, μ ++ [.frz (.lst ds)]) := by
  unfold finI
  have e : toD (μ ++ [.lst ds]) (rt (.cell μ.length)) = some (.lst ds, μ ++ [.frz (.lst ds)]) := by
    unfold toD
    dsimp only [rt]
    rw [get_end]
    dsimp only
    rw [set_end]
  rw [e]
  rfl
theorem comp_map' {i : MI} {t : MG} {el : ME} {ow : List Nat} {ρ : En} {μ μ1 : Sto} {ds : List D} (f : D → D) (hi : i ρ μ = some (.ok ds, μ1)) (hl : ds.length ≤ 1000) (h : ∀ d ∈ ds, ∀ ν : Sto, ∃ ρ', t (.val d) (wipeE ρ ow) ν = some (ρ', ν) ∧ el ρ' ν = some (.ok (.val (f d)), ν)) :
    mComp i t tTrue el ow ρ μ = some (.ok (.fr (ds.map f)), μ1) := by
  rw [mComp_ap, hi, andThen_ok, cloop_map f ds [] (by rw [List.length_nil]; omega) h, List.nil_append]
  unfold finC
  dsimp only
  rw [get_end]
  dsimp only
  rw [take_end]
theorem eq_bb {a b : Bool} : dEq (.bl a) (.bl b) = some (.val (.bl (a == b))) := by cases a <;> cases b <;> rfl
end Sz
set_option Elab.async false
set_option linter.all false
set_option maxRecDepth 100000
set_option maxHeartbeats 4000000
namespace Sz
open PySem PySem.Spec L2
/-- a loop whose body always comes to its end: an invariant by the turn's number -/
theorem floop_ix {t : MG} {b : MS} (I : Nat → En → Sto → Prop) : ∀ (ds : List D) (k : Nat) (ρ : En) (μ : Sto),
    (∀ i d ρ μ, ds[i]? = some d → I (k + i) ρ μ → ∃ ρ1 μ1, t (.val d) ρ μ = some (ρ1, μ1) ∧ ∃ ρ2 μ2, b ρ1 μ1 = some (.nx, ρ2, μ2) ∧ I (k + i + 1) ρ2 μ2) → I k ρ μ →
    ∃ ρ' μ', floop t b ds ρ μ = some (.nx, ρ', μ') ∧ I (k + ds.length) ρ' μ'
  | [], k, ρ, μ, _, h => ⟨ρ, μ, rfl, h⟩
  | d :: ds, k, ρ, μ, step, h => by
    obtain ⟨ρ1, μ1, e1, ρ2, μ2, e2, h2⟩ := step 0 d ρ μ rfl h
    obtain ⟨ρ', μ', e3, h3⟩ := floop_ix I ds (k + 1) ρ2 μ2 (fun i x ρ μ hx hI => by
      have e : k + 1 + i = k + (i + 1) := by omega
      rw [e] at hI ⊢
      exact step (i + 1) x ρ μ (by rw [List.getElem?_cons_succ]; exact hx) hI) h2
    refine ⟨ρ', μ', ?_, ?_⟩
    · rw [floop_cons e1, e2]
      exact e3
    · rw [List.length_cons, show k + (ds.length + 1) = k + 1 + ds.length by omega]
      exact h3
theorem rangeD_get {lo : Int} {n i : Nat} {d : D} (h : (rangeD lo n)[i]? = some d) : i < n ∧ d = .int (lo + i) := by
  unfold rangeD at h
  rw [List.getElem?_map] at h
  obtain ⟨j, h1, rfl⟩ := Option.map_eq_some_iff.mp h
  obtain ⟨h2, h3⟩ := List.getElem?_eq_some_iff.mp h1
  rw [List.length_range] at h2
  rw [List.getElem_range] at h3
  subst h3
  exact ⟨h2, rfl⟩
theorem rangeD_mem' {lo : Int} {n : Nat} {d : D} (h : d ∈ rangeD lo n) : ∃ i : Nat, i < n ∧ d = .int (lo + i) := by
  unfold rangeD at h
  obtain ⟨i, hi, rfl⟩ := List.mem_map.mp h
  exact ⟨i, List.mem_range.mp hi, rfl⟩
theorem rangeD_len {lo : Int} {n : Nat} : (rangeD lo n).length = n := by
  unfold rangeD
  rw [List.length_map, List.length_range]
theorem iRange1_to {a : ME} {ρ : En} {μ μ1 : Sto} {n : Nat} (h : a ρ μ = some (.ok (.val (.int (n : Int))), μ1)) (hn : n < 2 ^ 61) : iRange1 a ρ μ = some (.ok (rangeD 0 n), μ1) := by
  have e := iRange1_eq h (by unfold inR; rw [Bool.and_eq_true, decide_eq_true_eq, decide_eq_true_eq]; omega)
  rw [e, Int.toNat_natCast]
theorem eq_ss {s t : Str} : dEq (.str s) (.str t) = some (.val (.bl (decide (s = t)))) := Eq.trans rfl rfl
/-- what is shown of whole numbers is short -/
theorem shown_int_len {i : Int} {k : Nat} (hk : 0 < k) (h : i.natAbs < 2 ^ k) : (PyData.int i).shown.length ≤ k + 1 := by
  show (Str.ofString (toString i)).length ≤ k + 1
  rw [ofString_length]
  refine int_text_length_le hk ?_
  by_cases h0 : i.natAbs = 0
  · rw [h0]
    show Nat.log2 0 < k
    rw [Nat.log2_zero]
    exact hk
  · exact (Nat.log2_lt h0).mpr h
theorem log_of {i : Int} {k n : Nat} (h : i.natAbs < 2 ^ k) (hk : k ≤ n) (h0 : 0 < n) : i.natAbs.log2 < n := by
  by_cases e : i.natAbs = 0
  · rw [e, Nat.log2_zero]
    exact h0
  · exact Nat.lt_of_lt_of_le ((Nat.log2_lt e).mpr h) hk
end Sz
namespace Sz
open PySem PySem.Spec L2
end Sz
namespace Sz
open PySem PySem.Spec L2
end Sz
namespace Sz
open PySem PySem.Spec L2
end Sz
namespace Sz
open PySem PySem.Spec L2
/-- rising, one by one -/
def RiseL {α : Type} [LT α] (l : List α) : Prop := ∀ i (h : i + 1 < l.length), l[i] < l[i + 1]
theorem RiseL.map {α β : Type} [LT α] [LT β] {f : α → β} (hf : ∀ a b, f a < f b ↔ a < b) {l : List α} : RiseL (l.map f) ↔ RiseL l := by
  unfold RiseL
  constructor
  · intro h i hi
    have := h i (by rw [List.length_map]; exact hi)
    rw [List.getElem_map, List.getElem_map] at this
    exact (hf _ _).mp this
  · intro h i hi
    rw [List.getElem_map, List.getElem_map]
    exact (hf _ _).mpr (h i (by rw [List.length_map] at hi; exact hi))
end Sz
namespace Sz
open PySem PySem.Spec L2
theorem fnS_1_1 {c : MS} {x0 : S} {μ : Sto} : fnSem 2 c [x0] μ = finF μ.length (c [some x0, none] μ) := Eq.trans rfl rfl
theorem fnS_1_3 {c : MS} {x0 : S} {μ : Sto} : fnSem 4 c [x0] μ = finF μ.length (c [some x0, none, none, none] μ) := Eq.trans rfl rfl
theorem fnS_1_4 {c : MS} {x0 : S} {μ : Sto} : fnSem 5 c [x0] μ = finF μ.length (c [some x0, none, none, none, none] μ) := Eq.trans rfl rfl
theorem fnS_1_13 {c : MS} {x0 : S} {μ : Sto} : fnSem 14 c [x0] μ = finF μ.length (c [some x0, none, none, none, none, none, none, none, none, none, none, none, none, none] μ) := Eq.trans rfl rfl
end Sz
namespace Sz
open PySem PySem.Spec L2
end Sz
namespace Sz
open PySem PySem.Spec L2
end Sz
set_option Elab.async false
set_option linter.all false
set_option maxRecDepth 100000
set_option maxHeartbeats 4000000
namespace L2
open PySem PySem.Spec PyProof.Rows
end L2
namespace Sz
open PySem PySem.Spec PyProof.Rows L2
open Classical in
noncomputable def ownSem (fi : FnI) (x : D) : Option D := if h : ∃ d : D, ∀ μ : Sto, fi.sem [.val x] μ = some (.ok (.val d), μ) then some (choose h) else none
theorem ownSem_some {fi : FnI} {x d : D} (h : ownSem fi x = some d) : ∀ μ : Sto, fi.sem [.val x] μ = some (.ok (.val d), μ) := by
  unfold ownSem at h
  split at h
  · rename_i hx
    cases h
    exact Classical.choose_spec hx
  · cases h
section
variable {g : G} {P : Program} {w : World} {mg : Str → Option Value} {base : Heap} {k : Nat} {N : List Str} {sc : Scope} {own cm gb gc : Bool} {X : Cx} {W : WX}
theorem own_run {fi : FnI} {f : Addr} {j : Nat} {sh : List (Nat × List Str)} (c : Ct g P w mg base k N sc own cm gb X W) (FC : FnC gc g P w mg base fi j f sh) (hsh : sh.contains (1, []) = true) (hps : fi.ps.length = 1) {A : Around} (room : Room j A) (gd : gc = true → A.guards = some [])
    {F : Hp} {as : List Addr} {μ : Sto} {H : Hp} {σ : L2.St} {pins : List (Addr × Obj)} {st : Shared} {x d : D} {a : Addr} (hs : ∀ ν : Sto, fi.sem [.val x] ν = some (.ok (.val d), ν)) (sr : SR g F as μ H) (rx : Rep g F x (.ref a)) (I : Inv X pins σ H st)
    (en : Env0 X.prog X.w X.K X.mg X.base A X.stack st H) :
    wpAny (model X.prog X.w) A (call (.ref f) [.ref a]) (fun v s' => ∃ F' as' w H', Ext F as F' as' ∧ SR g F' as' μ H' ∧ Rep g F' d w ∧ RelV w v ∧ Inv X pins σ H' s') X.xe st := by
  obtain ⟨fd, dvs, ok, bnd, rd⟩ := FC.ok
  obtain ⟨ds, rds, hb⟩ := (bnd (1, []) (List.contains_iff_mem.mp hsh)).to
  obtain ⟨b, e1, e2⟩ := hb st [.ref a] [] (c.hK ▸ I.kIn) rfl rfl
  have eb : b = [Value.ref a] := by
    match hp : fi.ps, hps with
    | [p], _ =>
      rw [hp] at e1
      exact (Option.some.inj e1).symm
  subst eb
  have en' : Env0 P w g.K mg base A X.stack st H := by
    have := en
    rw [c.hP, c.hw, c.hK, c.hmg, c.hb] at this
    exact this
  have ask : spOf g fi.ps.length fi.sem [V.ref a] H (fun w H' => ∃ F' as', Ext F as F' as' ∧ SR g F' as' μ H' ∧ Rep g F' d w) (fun _ _ _ => False) := by
    refine ⟨hps.symm, F, as, [.val x], μ, _, μ, sr, .cons rx .nil, hs μ, fun F' as' v H' e sr' ra => ?_⟩
    exact ⟨F', as', e, sr', ra⟩
  rw [c.hP, c.hw]
  refine wpAny_call (codeAny_mono (ok.go A X.stack st H ⟨[.ref a], []⟩ [.ref a] [.ref a] _ _ room gd en' e2 (.cons rfl .nil) ask) fun r s' told => ?_)
  cases r with
  | error e =>
    obtain ⟨_, _, _, _, _, _, _, _, _, _, _, _, z⟩ := told
    exact z.elim
  | ok fl =>
    cases fl with
    | ret u =>
      have told' : CE X.stack X.prog X.w H st (fun w H' => ∃ F' as', Ext F as F' as' ∧ SR g F' as' μ H' ∧ Rep g F' d w) u s' := by
        rw [c.hP, c.hw]
        exact told
      obtain ⟨v, H', I', rv, F', as', e, sr', ra⟩ := I.after told'
      exact ⟨F', as', v, H', e, sr', ra, rv, I'⟩
    | next => exact False.elim told
    | brk => exact False.elim told
    | cont => exact False.elim told
/-- an own method of one class each, by its name -/
structure SpC (gb : Bool) (g : G) (P : Program) (w : World) (mg : Str → Option Value) (base : Heap) (m : Str) (sm : Nat → Option FnI) (k : Nat) : Prop where
  ok : ∀ c fi, sm c = some fi → ∃ f, FnC gb g P w mg base fi k f [(1, [])] ∧ PySem.W.findIn g.K (.ref (g.cad c)) m = some (some (.ref f)) ∧ PySem.W.isFn g.K (.ref f) = true ∧ fi.ps.length = 1
theorem Reps.reverse {F : Hp} : ∀ {ds : List D} {vs : List V}, Reps g F ds vs → Reps g F ds.reverse vs.reverse
  | [], vs, h => by rw [Reps.nil_iff.mp h]; exact Reps.nil
  | d :: ds, vs, h => by
    obtain ⟨v, r, rfl, h1, h2⟩ := Reps.cons_iff.mp h
    rw [List.reverse_cons, List.reverse_cons]
    exact h2.reverse.append (Reps.cons h1 Reps.nil)
end
end Sz
namespace Sz
end Sz
set_option Elab.async false
set_option linter.all false
set_option maxRecDepth 100000
set_option maxHeartbeats 2000000
namespace Sz
open PySem PySem.Spec PyProof.Rows L2
end Sz
namespace Sz
open PySem PySem.Spec PyProof.Rows L2
end Sz
set_option Elab.async false
set_option linter.all false
set_option maxRecDepth 100000
set_option maxHeartbeats 4000000
namespace Sz
open PySem PySem.Spec L2
end Sz
set_option Elab.async false
set_option linter.all false
set_option maxRecDepth 100000
set_option maxHeartbeats 4000000
namespace Sz
open PySem PySem.Spec PyProof.Rows L2
/-- a list (false) or a tuple (true) -/
def SqK (k : Bool) (K : PySem.W.Frag) (H : Hp) (a : Addr) (xs : List V) : Prop := match k with
  | true => SqT K H a xs
  | false => SqL K H a xs
def AtIt (k : Bool) (h : Heap) (it l : Addr) (i : Nat) : Prop := match k with
  | true => h.IsTupleIter it l i
  | false => h.IsListIter it l i
theorem AtIt.obj {k : Bool} {h : Heap} {it l : Addr} {i : Nat} (x : AtIt k h it l i) : ∃ o, h.get? it = some o ∧ ∀ v, o.data ≠ .cell v := by
  cases k
  · obtain ⟨o, e, _, d⟩ := (show Heap.IsListIter _ _ _ _ from x)
    exact ⟨o, e, fun v q => by rw [d] at q; cases q⟩
  · obtain ⟨o, e, _, d⟩ := (show Heap.IsTupleIter _ _ _ _ from x)
    exact ⟨o, e, fun v q => by rw [d] at q; cases q⟩
section
variable {g : G} {X : Cx} {W : WX} {e : Expr} {m : ME} {F0 : Hp} {p pos : Pos}
theorem SqK.mono {k : Bool} {K : PySem.W.Frag} {F F' : Hp} {a : Addr} {xs : List V} (e : Same F F') (h : SqK k K F a xs) : SqK k K F' a xs := by
  cases k
  · exact e.seq (show SqL K F a xs from h)
  · exact seqT_mono e (show SqT K F a xs from h)
end
end Sz
set_option Elab.async false
set_option linter.all false
set_option maxRecDepth 100000
set_option maxHeartbeats 4000000
namespace Sz
open PySem PySem.Spec L2
end Sz
set_option Elab.async false
set_option linter.all false
set_option maxRecDepth 100000
set_option maxHeartbeats 4000000
namespace Sz
open PySem PySem.Spec PyProof.Rows L2
end Sz
set_option Elab.async false
set_option linter.all false
set_option maxRecDepth 100000
set_option maxHeartbeats 4000000
namespace Sz
open PySem PySem.Spec PyProof.Rows L2
section
variable {prog : Program} {w : World} {A : Around} {E : Value → Shared → Prop}
inductive ElJ (prog : Program) (w : World) (A : Around) (E : Value → Shared → Prop) (J : Shared → Prop) : List Value → List Str → Prop
  | nil : ElJ prog w A E J [] []
  | cons {x : Value} {t : Str} {l : List Value} {ts : List Str} : (∀ base, base + t.length ≤ sizeLine → ∀ s, J s → wpAny (model prog w) A (pyReprUnder base x) (fun u s' => u = t ∧ J s') E s) → ElJ prog w A E J l ts → ElJ prog w A E J (x :: l) (t :: ts)
theorem ElJ.length {J : Shared → Prop} {l : List Value} {ts : List Str} (h : ElJ prog w A E J l ts) : ts.length = l.length := by
  induction h with
  | nil => rfl
  | cons _ _ ih => simp [ih]
theorem tupFoldJ {J : Shared → Prop} {l : List Value} {ts : List Str} (h : ElJ prog w A E J l ts) : ∀ (acc : Array Str) (n : Nat) (s : Shared) (Q : (Array Str × Nat) → Shared → Prop), n + piled ts ≤ sizeLine → J s → (∀ s', J s' → Q ⟨acc ++ ts.toArray, n + piled ts⟩ s') →
    wpAny (model prog w) A (forIn l (⟨acc, n⟩ : (Array Str × Nat)) tupBody) Q E s := by
  induction h with
  | nil =>
    intro acc n s Q _ hj k
    simp only [List.forIn_nil]
    exact wpAny_pure (by simpa [piled] using k s hj)
  | @cons x t l ts hx hl ih =>
    intro acc n s Q hn hj k
    rw [piled_cons] at hn
    rw [List.forIn_cons]
    refine wpAny_bind (wpAny_bind (wpAny_mono (hx (n + 1) (by omega) s hj) (fun u s' hu => ?_) fun _ _ e => e))
    obtain ⟨rfl, hj'⟩ := hu
    refine wpAny_pure (ih (acc.push u) (n + (u.length + 2)) s' Q (by omega) hj' fun s'' hj2 => ?_)
    have h1 := k s'' hj2
    have e : n + piled (u :: ts) = n + (u.length + 2) + piled ts := by rw [piled_cons]; omega
    rw [e] at h1
    simpa using h1
theorem tup_reprJ {J : Shared → Prop} {a : Addr} {items : Array Value} {ts : List Str} {s : Shared} {Q : Value → Shared → Prop} (ht : IsTup s.heap a items) (hg : A.guards = some []) (hJ : J s)
    (hT : ElJ prog w (A.under (.builtin "tuple.__repr__" ⟨[.ref a], []⟩)) E J items.toList ts) (hsz : (tupleText ts).length ≤ sizeLine)
    (hQ : ∀ s' u, J s' → Q (.str (tupleText ts) u) { s' with toks := s'.toks + 1 }) : wpAny (model prog w) A (call (.builtin "tuple.__repr__") [.ref a]) Q E s := by
  obtain ⟨o, ho, hc, n, hd⟩ := ht
  have hlen : ts.length = items.size := by simpa using hT.length
  have hp := piled_le_tupleText ts
  refine wpAny_call (codeAny_call_builtin_own (Code.quiet_builtin _ (by decide +kernel)) F.entry_tuple_repr (F.slot_tuple_repr.check _ _ _ _ _ _ _ _ ⟨o, ho, hc⟩ (F.args_tuple_repr_1 _) ?_))
  rw [show Builtin.«tuple.__repr__» ⟨[.ref a], []⟩ = Builtin.tupleReprAt 0 ⟨[.ref a], []⟩ from rfl, tuple_repr_tree, tupleReprUnderWay_eq]
  refine wpOwn_bind (wpOwn_stackTailAny hg (tupGuardF_off _) (tupGuardF_pos _) ?_)
  rw [show (([] : List Code).any fun c => tupGuardF (.ref a) (c, default)) = false from rfl]
  refine wpOwn_of_wpAny ?_
  show wpAny _ _ (tupleReprRest 0 (.ref a)) _ _ s
  unfold tupleReprRest Builtin.Tuple.tupleItemsOf
  refine wpAny_bind (wpAny_bind (wpAny_seqItems ho hd (wpAny_pure ?_)))
  rw [← Array.forIn_toList]
  refine wpAny_bind (tupFoldJ hT _ _ _ _ (by omega) hJ fun s' hj => ?_)
  refine wpAny_bind (wpAny_mkStr (wpAny_pure ?_) (by simpa [tupleText, hlen] using hsz))
  have h1 := hQ s' s'.toks hj
  simpa [tupleText, hlen, callEnd] using h1
end
/-- a thing's repr where it stands in a tuple: nothing, truths, whole numbers, texts, own objects -/
noncomputable def textO (sm : Nat → Option FnI) : D → Option Str
  | .non => some "None"
  | .bl b => some (if b then "True" else "False")
  | .int n => if n.natAbs.log2 < 1920 then some (toString n) else none
  | .str x => if (reprText x).length ≤ sizeLine then some (reprText x) else none
  | .obj c fs => (sm c).bind fun fi => match ownSem fi (.obj c fs) with
    | some (.str t) => some t
    | _ => none
  | _ => none
noncomputable def textsO (sm : Nat → Option FnI) : List D → Option (List Str)
  | [] => some []
  | d :: ds => match textO sm d, textsO sm ds with
    | some t, some ts => some (t :: ts)
    | _, _ => none
def strK : Option D → Option S
  | some (.str t) => some (.val (.str t))
  | _ => none
def tupK : Option (List Str) → Option S
  | some ts => if (tupleText ts).length ≤ sizeLine then some (.val (.str (tupleText ts))) else none
  | none => none
/-- repr(x): own objects by sm, in tuples by sn; data -/
noncomputable def bReprO (sm sn : Nat → Option FnI) : List D → Option S
  | [.obj c fs] => (match sm c with
    | some fi => strK (ownSem fi (.obj c fs))
    | none => none)
  | [.tup ds] => (match toPy (.tup ds) with
    | some p => shK (some p)
    | none => tupK (textsO sn ds))
  | xs => bRepr xs
theorem Room.tupr {k : Nat} {A : Around} {a : Addr} (r : Room (k + 1) A) : Room k (A.under (.builtin "tuple.__repr__" ⟨[.ref a], []⟩)) := by
  have hd : (A.under (.builtin "tuple.__repr__" ⟨[.ref a], []⟩)).depth ≤ A.depth + 1 := by
    first
      | exact Nat.le_refl _
      | exact Nat.le_succ _
      | (simp [Around.under, Code.weight, Code.isCreation, Code.isGuard, Code.isCaller, Code.frames, Code.isFrame, guardIds])
  refine ⟨r.hd, ?_, ?_⟩
  · have := r.dp
    omega
  · have := r.un
    rw [units_under_tuple_repr]
    omega
theorem env0_tupr {P : Program} {w : World} {K : PySem.W.Frag} {mg : Str → Option Value} {base : Heap} {A : Around} {outer : List Env} {s : Shared} {H : Hp} {a : Addr} (e : Env0 P w K mg base A outer s H) :
    Env0 P w K mg base (A.under (.builtin "tuple.__repr__" ⟨[.ref a], []⟩)) outer s H := ⟨by first | exact e.frames | (simpa [Around.under, Code.envs, Code.isFrame, pushEnvs] using e.frames), e.mod, e.bs, e.bsz, e.funs, e.frf, e.hok, e.bare⟩
section
variable {g : G} {P : Program} {w : World} {mg : Str → Option Value} {base : Heap} {k : Nat} {N : List Str} {sc : Scope} {own cm gb gc : Bool} {X : Cx} {W : WX}
/-- the state between two things of a tuple that is shown -/
def JR (g : G) (X : Cx) (pins : List (Addr × Obj)) (σ : L2.St) (F : Hp) (as : List Addr) (μ : Sto) (s : Shared) : Prop := ∃ F' as' H', Ext F as F' as' ∧ SR g F' as' μ H' ∧ Inv X pins σ H' s
theorem pyRepr_own {prog : Program} {w : World} {A : Around} {E : Value → Shared → Prop} {s : Shared} {K : PySem.W.Frag} {x C f : Addr} {ox : Obj} {od : Option Obj} {base : Nat} {Q : Str → Shared → Prop} (hb : base ≤ sizeLine) (hu : A.units < cLine) (X : K.In s.heap) (I : PySem.W.InstAt s.heap x ox C od) (hs : PySem.W.findIn K (.ref C) "__repr__" = some (some (.ref f))) (hf : PySem.W.isFn K (.ref f) = true)
    (h : wpAny (model prog w) A (call (.ref f) [.ref x]) (fun v s' => ∃ y t, v = .str y t ∧ Q y s') E s) : wpAny (model prog w) A (pyReprUnder base (.ref x)) Q E s := by
  refine wpAny_pyReprUnder_ref hb ?_
  unfold pyReprObjUnder pyReprObjBy
  refine wpAny_bind (wpAny_cRoomFor hu ?_)
  refine wpAny_bind (wpAny_bind (I.type.here ((PySem.W.looks_findIn X hs).here ?_)))
  show wpAny _ _ (if (some (Value.ref f)).isNone = true then _ else _) _ _ _
  rw [if_neg (by simp)]
  refine wpAny_bind (m := callSpecialIfBoundBy? _ (.ref x) (Str.ofString "__repr__")) ?_
  have fin : ∀ (v : Value) (s' : Shared), (∃ y t, v = .str y t ∧ Q y s') → wpAny (model prog w) A (match (some v : Option Value) with
      | some r => (do if ← isInstance r (.type "str") then pure r else raiseError "TypeError" s!"__repr__ returned non-string (type {← typeNameOf r})")
      | none => unsupported "repr:special-get-raises") (fun v s' => ∃ x u, v = .str x u ∧ Q x s') E s' := by
    rintro v s' ⟨y, t, rfl, q⟩
    exact wpAny_bind (wpAny_isInstance (T := "str") (b := true) rfl isSubtype_str_str (wpAny_pure ⟨y, t, rfl, q⟩))
  simp only [callSpecialIfBoundBy?, bindSpecialIfBound?]
  refine wpAny_holding (wpAny_bind (wpAny_bind (wpAny_bind (I.type.here ((PySem.W.looks_findIn X hs).here ?_)))))
  have go : wpAny (model prog w) A (call (.ref f) ([.ref x] ++ []) >>= fun v => pure (some v)) (fun r s' => wpAny (model prog w) A (match r with
      | some r => (do if ← isInstance r (.type "str") then pure r else raiseError "TypeError" s!"__repr__ returned non-string (type {← typeNameOf r})")
      | none => unsupported "repr:special-get-raises") (fun v s' => ∃ x u, v = .str x u ∧ Q x s') E s') E s :=
    wpAny_bind (wpAny_mono h (fun v s' hv => wpAny_pure (fin v s' hv)) fun _ _ z => z)
  refine wpAny_bind (wpAny_askSetting (wpAny_ite ?_))
  split
  · exact wpAny_bind ((PySem.W.bind_fn X _ (beq_iff_eq.mp hf)).here (wpAny_pure (by exact go)))
  · exact wpAny_tryCatch (wpAny_bind ((PySem.W.bind_fn X _ (beq_iff_eq.mp hf)).here (wpAny_pure (by exact go))))
theorem JR.tok {pins : List (Addr × Obj)} {σ : L2.St} {F : Hp} {as : List Addr} {μ : Sto} {s : Shared} (h : JR g X pins σ F as μ s) (t : Tok) : JR g X pins σ F as μ { s with toks := t } := by
  obtain ⟨F', as', H', x, sr, I⟩ := h
  exact ⟨F', as', H', x, sr, I.tok _⟩
theorem elem_repr {sn : Nat → Option FnI} {j : Nat} (c : Ct g P w mg base k N sc own true gb X W) (E : SpC false g P w mg base "__repr__" sn j) (hj : Nat.ble (j + 2) k = true) {pt : Addr} {d : D} {v : V} {x : Value} {t : Str} {pins : List (Addr × Obj)} {σ : L2.St} {F : Hp} {as : List Addr} {μ : Sto}
    (h : textO sn d = some t) (rd : Rep g F d v) (rv : RelV v x) (b : Nat) (hb : b + t.length ≤ sizeLine) (s : Shared) (hJ : JR g X pins σ F as μ s) :
    wpAny (model X.prog X.w) ((X.A.in1).under (.builtin "tuple.__repr__" ⟨[.ref pt], []⟩)) (pyReprUnder b x) (fun u s' => u = t ∧ JR g X pins σ F as μ s') X.xe s := by
  cases d with
  | non =>
    cases h
    unfold Rep at rd
    subst rd
    cases (show x = Value.none from rv)
    exact ReprIs.none b hb _ _ _ _ fun tk => ⟨rfl, hJ.tok tk⟩
  | bl y =>
    cases h
    unfold Rep at rd
    subst rd
    cases (show x = Value.bool y from rv)
    exact ReprIs.bool y b hb _ _ _ _ fun tk => ⟨rfl, hJ.tok tk⟩
  | int n =>
    have h : (if n.natAbs.log2 < 1920 then some (Str.ofString (toString n)) else none) = some t := h
    split at h
    · rename_i hn
      cases h
      unfold Rep at rd
      subst rd
      obtain ⟨tt, rfl⟩ := (show ∃ t, x = Value.int n t from rv)
      exact ReprIs.int tt hn b hb _ _ _ _ fun tk => ⟨rfl, hJ.tok tk⟩
    · cases h
  | str y =>
    have h : (if (reprText y).length ≤ sizeLine then some (reprText y) else none) = some t := h
    split at h
    · rename_i hn
      cases h
      unfold Rep at rd
      subst rd
      obtain ⟨tt, rfl⟩ := (show ∃ t, x = Value.str y t from rv)
      exact ReprIs.str y tt hn b hb _ _ _ _ fun tk => ⟨rfl, hJ.tok tk⟩
    · cases h
  | obj ci fs =>
    have h : ((sn ci).bind fun fi => match ownSem fi (.obj ci fs) with
      | some (.str t) => some t
      | _ => none) = some t := h
    obtain ⟨fi, hfi, h2⟩ := Option.bind_eq_some_iff.mp h
    split at h2
    · rename_i t' ho
      cases h2
      have hs := ownSem_some ho
      obtain ⟨f, FC, hfind, hfn, hps⟩ := E.ok ci fi hfi
      obtain ⟨F', as', H', x', sr', I'⟩ := hJ
      have rd' := rd.mono x'.1
      obtain ⟨a, dx, us, rfl, ha, _, _⟩ := vr_obj sr' (.inr rd')
      cases (show x = Value.ref a from rv)
      obtain ⟨mA, J, _⟩ := ins_get I'.hok ha
      obtain ⟨od, J, _⟩ := J.look
      have hr := (c.room rfl).mono (Nat.le_of_ble_eq_true hj)
      have hr2 := Room.tupr (a := pt) (k := j) (Room.in1 (k := j + 1) hr)
      refine pyRepr_own (by omega) (by have := hr2.un; omega) I'.kIn J (c.hK ▸ hfind) (c.hK ▸ hfn) ?_
      refine wpAny_mono (own_run c FC rfl hps hr2 (fun e => nomatch e) hs sr' rd' I' (env0_tupr I'.env0.in1)) (fun v s' told => ?_) fun _ _ z => z
      obtain ⟨F2, as2, w', H2, x2, sr2, rw', rel, I2⟩ := told
      unfold Rep at rw'
      subst rw'
      obtain ⟨tt, rfl⟩ := (show ∃ tt, v = Value.str t tt from rel)
      exact ⟨t, tt, rfl, rfl, F2, as2, H2, x'.trans x2, sr2, I2⟩
    · cases h2
  | _ => cases h
theorem elj {sn : Nat → Option FnI} {j : Nat} (c : Ct g P w mg base k N sc own true gb X W) (E : SpC false g P w mg base "__repr__" sn j) (hj : Nat.ble (j + 2) k = true) {pt : Addr} {pins : List (Addr × Obj)} {σ : L2.St} {F : Hp} {as : List Addr} {μ : Sto} :
    ∀ {ds : List D} {vs : List V} {its : List Value} {ts : List Str}, textsO sn ds = some ts → Reps g F ds vs → Vals vs its → ElJ X.prog X.w ((X.A.in1).under (.builtin "tuple.__repr__" ⟨[.ref pt], []⟩)) X.xe (JR g X pins σ F as μ) its ts
  | [], vs, its, ts, h, r, rv => by
    cases h
    cases Reps.nil_iff.mp r
    cases rv
    exact .nil
  | d :: ds, vs, its, ts, h, r, rv => by
    unfold textsO at h
    split at h
    · rename_i t ts' h1 h2
      cases h
      obtain ⟨v, r', rfl, r1, r2⟩ := Reps.cons_iff.mp r
      cases rv with
      | cons q1 q2 => exact .cons (fun b hb s hJ => elem_repr c E hj h1 r1 q1 b hb s hJ) (elj c E hj h2 r2 q2)
    · cases h
theorem Ct.reprO {sm sn : Nat → Option FnI} {i j : Nat} (c : Ct g P w mg base k N sc own true gb X W) (E : SpC gc g P w mg base "__repr__" sm i) (En : SpC false g P w mg base "__repr__" sn j) (hgd : leB gc gb = true) (gd : X.A.guards = some []) (hi : Nat.ble (i + 1) k = true) (hj : Nat.ble (j + 2) k = true) : CallOk g X (.builtin "repr") (bReprO sm sn) := by
  intro xs s F as μ H vs Q e sr hx kk
  unfold bReprO at e
  split at e
  · rename_i ci fs
    split at e
    · rename_i fi hfi
      obtain ⟨v, rfl, hv⟩ := vrs1 hx
      unfold strK at e
      split at e
      · rename_i t ho
        cases e
        have hs := ownSem_some ho
        obtain ⟨f, FC, hfind, hfn, hps⟩ := E.ok ci fi hfi
        obtain ⟨a, dx, us, rfl, ha, _, _⟩ := vr_obj sr hv
        have rx : Rep g F (.obj ci fs) (.ref a) := by
          rcases hv with ⟨_, _, _, q, _⟩ | hv
          · cases q
          · exact hv
        intro pins st σ vs' I rv
        obtain ⟨u, rfl, ru⟩ := rv.one
        cases (show u = Value.ref a from ru)
        obtain ⟨mA, J, _⟩ := ins_get I.hok ha
        obtain ⟨od, J, _⟩ := J.look
        obtain ⟨m, hFr⟩ := I.fr
        have hr := (c.room rfl).mono (Nat.le_of_ble_eq_true hi)
        refine PySem.W.repr_K (by have := hr.in1.un; omega) hFr I.ok.mod.kin J (c.hK ▸ hfind) (c.hK ▸ hfn) ?_
        refine wpAny_mono (own_run c FC rfl hps hr.in1 (fun e => c.gd (leB_ok hgd e)) hs sr rx I I.env0.in1) (fun v s' told => ?_) fun _ _ z => z
        obtain ⟨F', as', w', H', x', sr', rw', rel, I'⟩ := told
        unfold Rep at rw'
        subst rw'
        obtain ⟨tt, rfl⟩ := (show ∃ tt, v = Value.str t tt from rel)
        exact ⟨.str t, H', I', ⟨_, rfl⟩, kk F' as' _ H' x' sr' ra_str⟩
      · cases e
    · cases e
  · rename_i ds
    split at e
    · rename_i p hp
      exact co_repr c.K gd c.hu [.tup ds] s F as μ H vs Q (by show shK (toPy (.tup ds)) = some s; rw [hp]; exact e) sr hx kk
    · obtain ⟨v, rfl, hv⟩ := vrs1 hx
      unfold tupK at e
      split at e
      · rename_i ts hts
        split at e
        · rename_i hz
          cases e
          obtain ⟨p, vs, rfl, hp, rv⟩ := vr_tup sr hv
          intro pins st σ us I ru
          obtain ⟨u, rfl, r1⟩ := ru.one
          cases (show u = Value.ref p from r1)
          obtain ⟨its, r, ht, _⟩ := I.tuple (c.hK ▸ hp)
          refine call_repr_slot (by have := c.hu; omega) ht.typeIs PySem.F.slot_tuple_repr ?_
          refine tup_reprJ (A := X.A.in1) (J := JR g X pins σ F as μ) ht gd ⟨F, as, H, .refl, sr, I⟩ (elj c En hj hts rv (by simpa using r)) hz fun s' u hJ => ?_
          obtain ⟨F', as', H', x', sr', I'⟩ := hJ
          exact ⟨_, _, rfl, .str _, H', I'.tok _, ⟨_, rfl⟩, kk F' as' _ H' x' sr' ra_str⟩
        · cases e
      · cases e
  · exact co_repr c.K gd c.hu xs s F as μ H vs Q e sr hx kk
end
end Sz
set_option Elab.async false
set_option linter.all false
set_option maxRecDepth 100000
set_option maxHeartbeats 4000000
namespace Sz
open PySem PySem.Spec PyProof.Rows L2
end Sz
set_option Elab.async false
set_option linter.all false
set_option maxRecDepth 100000
set_option maxHeartbeats 4000000
namespace Sz
open PySem PySem.Spec PyProof.Rows L2
end Sz
set_option Elab.async false
set_option linter.all false
set_option maxRecDepth 100000
set_option maxHeartbeats 4000000
namespace Sz
open PySem PySem.Spec PyProof.Rows L2
end Sz
set_option Elab.async false
set_option linter.all false
set_option maxRecDepth 100000
set_option maxHeartbeats 4000000
namespace Sz
open PySem PySem.Spec PyProof.Rows L2
section
variable {g : G} {P : Program} {w : World} {mg : Str → Option Value} {base : Heap} {k : Nat} {N : List Str} {sc : Scope} {own cm gb gc : Bool} {X : Cx} {W : WX}
theorem vr_rep {F H : Hp} {d : D} {v : V} (hd : ∀ ds, d ≠ .lst ds) (h : VR g F H d v) : Rep g F d v := by
  rcases h with ⟨ds, _, _, q, _⟩ | h
  · exact (hd ds q).elim
  · exact h
end
end Sz
set_option Elab.async false
set_option linter.all false
set_option maxRecDepth 100000
set_option maxHeartbeats 4000000
namespace Sz
open PySem PySem.Spec PyProof.Rows L2
end Sz
set_option Elab.async false
set_option linter.all false
set_option maxRecDepth 100000
set_option maxHeartbeats 4000000
namespace Sz
open PySem PySem.Spec PyProof.Rows L2
end Sz
set_option Elab.async false
set_option linter.all false
set_option maxRecDepth 100000
set_option maxHeartbeats 4000000
namespace Sz
open PySem PySem.Spec L2
end Sz
set_option Elab.async false
set_option linter.all false
set_option maxRecDepth 100000
set_option maxHeartbeats 4000000
namespace Sz
open PySem PySem.Spec PyProof.Rows L2
end Sz
set_option Elab.async false
set_option linter.all false
set_option maxRecDepth 100000
set_option maxHeartbeats 4000000
namespace Sz
open PySem PySem.Spec L2
end Sz
set_option Elab.async false
set_option linter.all false
set_option maxRecDepth 100000
set_option maxHeartbeats 4000000
namespace Sz
open PySem PySem.Spec PyProof.Rows L2
/-- an exception that is told no more: the object as it stands -/
def exO (a : Addr) (oe : Obj) : HO := .ext fun h => h.get? a = some oe
end Sz
set_option Elab.async false
set_option linter.all false
set_option maxRecDepth 100000
set_option maxHeartbeats 4000000
namespace Sz
open PySem PySem.Spec PyProof.Rows L2
/-- a clause: its class, its name's slot, its suite -/
structure SCl where
  c : Nat
  i : Option Nat
  m : MS
section
variable {g : G} {F H : Hp} {as : List Addr} {μ : Sto}
theorem freezeX {p : Addr} {o : HO} (r : SR g F as μ H) (hp : H p = some o) (fp : F p = none) (nl : ∀ vs, o ≠ .lst vs) (ni : ∀ C d fs, o ≠ .ins C d fs) (nk : ∀ kvs, o ≠ .dK kvs) (nt : ∀ ps, o ≠ .tbl ps := by intro ps z; cases z) : SR g (upd F p o) as μ H ∧ Ext F as (upd F p o) as ∧ upd F p o p = some o := by
  have s1 : Same F (upd F p o) := same_upd fp
  refine ⟨⟨fun b u e => ?_, r.len, fun k a c e1 e2 => ?_, r.nd, r.live, r.tb.of (fun b ps e _ => e) s1 fun b ps e n m => ⟨by rw [upd_ne (fun z => nt ps (Option.some.inj (hp.symm.trans (by rw [← z]; exact e))))]; exact n, m⟩⟩, ⟨s1, [], (List.append_nil _).symm⟩, upd_same⟩
  · by_cases hb : b = p
    · rw [hb, upd_same] at e; rw [hb, ← e]; exact hp
    · rw [upd_ne hb] at e; exact r.sub _ _ e
  · have x := r.cells k a c e1 e2
    cases c with
    | lst ds =>
      obtain ⟨f, vs, h, z⟩ := (show F a = none ∧ ∃ vs, H a = some (.lst vs) ∧ Reps g F ds vs from x)
      have na : a ≠ p := fun q => by
        rw [q, hp] at h
        cases h
        exact nl _ rfl
      exact ⟨by rw [upd_ne na]; exact f, vs, h, z.mono s1⟩
    | frz d => exact Rep.mono s1 (show Rep g F d (.ref a) from x)
    | ins c fs =>
      obtain ⟨f, dx, vs, h, l, z⟩ := (show F a = none ∧ ∃ dx vs, H a = some (.ins (g.cad c) dx ((fs.map (·.1)).zip vs)) ∧ vs.length = fs.length ∧ Reps g F (fs.map (·.2)) vs from x)
      have na : a ≠ p := fun q => by
        rw [q, hp] at h
        cases h
        exact ni _ _ _ rfl
      exact ⟨by rw [upd_ne na]; exact f, dx, vs, h, l, z.mono s1⟩
    | pot j ds =>
      obtain ⟨f, b, us, hb, h, z⟩ := (show F a = none ∧ ∃ b us, (as.take k)[j]? = some b ∧ H a = some (.lst (.ref b :: us)) ∧ Reps g F ds us from x)
      have na : a ≠ p := fun q => by
        rw [q, hp] at h
        cases h
        exact nl _ rfl
      exact ⟨by rw [upd_ne na]; exact f, b, us, hb, h, z.mono s1⟩
    | dct kvs =>
      obtain ⟨f, ws, h, z⟩ := (show F a = none ∧ ∃ ws, H a = some (.dK ws) ∧ Paired (fun (p : Key × D) (q : Key × V) => p.1 = q.1 ∧ Rep g F p.2 q.2) kvs ws from x)
      have na : a ≠ p := fun q => by
        rw [q, hp] at h
        cases h
        exact nk _ rfl
      exact ⟨by rw [upd_ne na]; exact f, ws, h, Paired.mapP z fun _ _ w => ⟨w.1, w.2.mono s1⟩⟩
    | bk c fs =>
      obtain ⟨f, dx, bs, h, l, z⟩ := (show F a = none ∧ ∃ (dx : Addr) (bs : List Addr), H a = some (.ins (g.cad c) dx ((fs.map (·.1)).zip (bs.map V.ref))) ∧ bs.length = fs.length ∧ ∀ (i : Nat) (q : Str × Nat), fs[i]? = some q → ∃ b, bs[i]? = some b ∧ (as.take k)[q.2]? = some b from x)
      have na : a ≠ p := fun q => by
        rw [q, hp] at h
        cases h
        exact ni _ _ _ rfl
      exact ⟨by rw [upd_ne na]; exact f, dx, bs, h, l, z⟩
/-- what is caught, tracked and frozen -/
theorem caught {c : Nat} {fs : List D} {cls : Value} {d : Option Addr} {a : Addr} {oe : Obj} (sr : SR g F as μ H) (rx : RX g F H (.own c fs) cls d) (na : H a = none) (hc : oe.cls = cls) (hd : oe.dict = d) (hf : ∃ vs, oe.data = .fields vs) :
    ∃ F', Ext F as F' as ∧ SR g F' as μ (upd H a (exO a oe)) ∧ Rep g F' (.exc c fs) (.ref a) := by
  obtain ⟨h1, h2⟩ := (show cls = .ref (g.cad c) ∧ ((fs = [] ∧ d = none) ∨ ∃ a vs, fs ≠ [] ∧ d = some a ∧ H a = some (.xd ((g.fl c).zip vs)) ∧ vs.length = (g.fl c).length ∧ Reps g F fs vs) from rx)
  rcases h2 with ⟨rfl, rfl⟩ | ⟨dx, vs, hne, rfl, hx, hl, hr⟩
  · obtain ⟨r1, f1, n1⟩ := sr.loose (o := exO a oe) na
    obtain ⟨r2, x2, e2⟩ := r1.freeze (vs := []) upd_same f1 n1
    refine ⟨_, x2, r2, ?_⟩
    unfold Rep
    exact ⟨a, oe, a, [], rfl, e2, hc.trans h1, hf, (fun z => by rw [hd] at z; cases z), (fun _ => rfl), (fun _ => hd), Reps.nil⟩
  · have key : ∀ F1 : Hp, Ext F as F1 as → SR g F1 as μ H → F1 dx = some (.xd ((g.fl c).zip vs)) → ∃ F', Ext F as F' as ∧ SR g F' as μ (upd H a (exO a oe)) ∧ Rep g F' (.exc c fs) (.ref a) := fun F1 x1 s1 e1 => by
      obtain ⟨r1, f1, n1⟩ := s1.loose (o := exO a oe) na
      obtain ⟨r2, x2, e2⟩ := r1.freeze (vs := []) upd_same f1 n1
      refine ⟨_, x1.trans x2, r2, ?_⟩
      unfold Rep
      exact ⟨a, oe, dx, vs, rfl, e2, hc.trans h1, hf, (fun z => by
        rw [hd] at z
        cases z
        exact ⟨x2.1 _ _ e1, hl⟩), (fun z => (z hd).elim), (fun z => (hne z).elim), Reps.mono (x1.trans x2).1 hr⟩
    cases q : F dx with
    | some o =>
      have e := sr.sub _ _ q
      rw [hx] at e
      cases e
      exact key F .refl sr q
    | none =>
      obtain ⟨s1, x1, e1⟩ := freezeX sr hx q (fun _ z => by cases z) (fun _ _ _ z => by cases z) (fun _ z => by cases z)
      exact key _ x1 s1 e1
end
end Sz
set_option Elab.async false
set_option linter.all false
set_option maxRecDepth 100000
set_option maxHeartbeats 4000000
namespace Sz
open PySem PySem.Spec PyProof.Rows L2
/-- by one class -/
def isX (sub : Nat → Nat → Option Bool) (ty : Nat → String → Option Bool) (c : Nat) : D → Option Bool
  | .cls j => sub c j
  | .ty T => ty c T
  | _ => none
def isXs (sub : Nat → Nat → Option Bool) (ty : Nat → String → Option Bool) (c : Nat) : List D → Option Bool
  | [] => some false
  | d :: ds => (match isX sub ty c d with
    | some true => some true
    | some false => isXs sub ty c ds
    | none => none)
/-- what the head must tell of the exceptions' classes -/
structure ExcF (g : G) (sub : Nat → Nat → Option Bool) (ty : Nat → String → Option Bool) : Prop where
  c : ∀ c j b, sub c j = some b → ExcC g.K (g.cad c) ∧ PySem.W.kitOne g.K (.ref (g.cad c)) (.ref (g.cad j)) = some b
  t : ∀ c T b, ty c T = some b → ExcC g.K (g.cad c) ∧ PySem.W.kitOne g.K (.ref (g.cad c)) (.type T) = some b
section
variable {g : G} {X : Cx} {sub : Nat → Nat → Option Bool} {ty : Nat → String → Option Bool}
theorem isX_kit (xf : ExcF g sub ty) {F : Hp} {c : Nat} {d : D} {b : Bool} {v : V} {u : Value} (h : isX sub ty c d = some b) (r : Rep g F d v) (ru : RelV v u) : ExcC g.K (g.cad c) ∧ PySem.W.kitOne g.K (.ref (g.cad c)) u = some b := by
  unfold isX at h
  split at h
  · unfold Rep at r
    subst r
    cases (show u = .ref _ from ru)
    exact xf.c _ _ _ h
  · unfold Rep at r
    subst r
    cases (show u = .type _ from ru)
    exact xf.t _ _ _ h
  · cases h
theorem isXs_kit (xf : ExcF g sub ty) {F : Hp} {c : Nat} (hc : ExcC g.K (g.cad c)) : ∀ {ds : List D} {b : Bool} {vs : List V} {us : List Value}, isXs sub ty c ds = some b → Reps g F ds vs → Vals vs us → PySem.W.kitAny g.K (.ref (g.cad c)) us = some b
  | [], b, vs, us, h, r, ru => by
    cases h
    rw [Reps.nil_iff.mp r] at ru
    cases ru
    rfl
  | d :: ds, b, vs, us, h, r, ru => by
    obtain ⟨v, r', rfl, e1, e2⟩ := Reps.cons_iff.mp r
    cases ru with
    | cons x xs =>
      unfold isXs at h
      cases q : isX sub ty c d with
      | none => rw [q] at h; cases h
      | some z =>
        rw [q] at h
        have k := (isX_kit xf q e1 x).2
        unfold PySem.W.kitAny
        rw [k]
        cases z with
        | true => cases h; rfl
        | false => exact isXs_kit xf hc h e2 xs
theorem isXs_some (xf : ExcF g sub ty) {c : Nat} {d : D} {ds : List D} {b : Bool} (h : isXs sub ty c (d :: ds) = some b) : ExcC g.K (g.cad c) := by
  unfold isXs at h
  cases q : isX sub ty c d with
  | none => rw [q] at h; cases h
  | some z =>
    unfold isX at q
    split at q
    · exact (xf.c _ _ _ q).1
    · exact (xf.t _ _ _ q).1
    · cases q
end
end Sz
set_option Elab.async false
set_option linter.all false
set_option maxRecDepth 100000
set_option maxHeartbeats 4000000
namespace Sz
open PySem PySem.Spec PyProof.Rows L2
section
variable {cls fns : List Str} {fls : List (List Str)} {tb : List (Addr × Str)} {K : PySem.W.Frag} {t : XTab}
theorem xt_exc (h : xtB cls t K = true) {c : Nat} {p : Str × Nat} (hc : t.exs.lookup c = some p) : xcB K p = true ∧ cls.getD c "" = p.1 := by
  have h1 := List.all_eq_true.mp (He.ba (He.ba h).1).2 (c, p) (lkp_mem hc)
  exact ⟨(He.ba h1).1, beq_iff_eq.mp (He.ba h1).2⟩
theorem xt_xcf (h : xtB cls t K = true) {c : Nat} (hc : (t.exs.lookup c).isSome = true) : XcF (gOf cls fls K fns tb) K c := by
  obtain ⟨p, hp⟩ := Option.isSome_iff_exists.mp hc
  obtain ⟨h1, h2⟩ := xt_exc h hp
  obtain ⟨B, initId, fB⟩ := base_ok p.2
  unfold xcB at h1
  have e : (gOf cls fls K fns tb).cad c = He.ga K p.1 := by rw [← h2]; rfl
  refine ⟨⟨B, newOf p.2, initId, bmOf p.2, fB, ?_⟩, ?_, ?_, ?_⟩
  · rw [e]; exact (He.ba (He.ba h1).1).1
  · rw [e]; exact (He.ba (He.ba h1).1).2
  · rw [e]; exact beq_iff_eq.mp (He.ba (He.ba (He.ba h1).2).1).1
  · rw [e]; exact beq_iff_eq.mp (He.ba (He.ba (He.ba h1).2).1).2
theorem xt_ec (h : xtB cls t K = true) {c : Nat} (hc : (t.exs.lookup c).isSome = true) : ExcC K ((gOf cls fls K fns tb).cad c) := by
  obtain ⟨p, hp⟩ := Option.isSome_iff_exists.mp hc
  obtain ⟨h1, h2⟩ := xt_exc h hp
  unfold xcB at h1
  have e : (gOf cls fls K fns tb).cad c = He.ga K p.1 := by rw [← h2]; rfl
  have r := (He.ba (He.ba h1).2).2
  have k := (He.ba (He.ba h).1).1
  refine ⟨?_, ?_, ?_, ?_, ?_, beq_iff_eq.mp (He.ba k).1, beq_iff_eq.mp (He.ba k).2, ?_⟩
  · rw [e]; exact beq_iff_eq.mp (He.ba (He.ba r).1).1
  · rw [e]; exact beq_iff_eq.mp (He.ba (He.ba r).1).2
  · rw [e]; exact beq_iff_eq.mp (He.ba (He.ba (He.ba h1).2).1).1
  · rw [e]; exact (He.ba (He.ba (He.ba r).2).1).1
  · rw [e]; exact beq_iff_eq.mp (He.ba (He.ba (He.ba r).2).1).2
  · rw [e]; exact beq_iff_eq.mp (He.ba (He.ba r).2).2
end
section
variable {g : G} {P : Program} {w : World} {mg : Str → Option Value} {base : Heap} {k : Nat} {N : List Str} {sc : Scope} {own cm gb : Bool} {X : Cx} {W : WX} {frees globs : List Str}
theorem Ct.names {c : Nat} {x : Str} (cx : Ct g P w mg base k N sc own cm gb X W) (T : Tb g mg frees globs) (hg : glB sc x = true) (hf : globs.contains x = true) (hc : g.cad c = He.ga g.K x) : Names X x (.ref (g.cad c)) := by
  obtain ⟨g1, g2, g3⟩ := cx.gl hg
  exact ⟨g1, g2, .inl (by rw [cx.hmg, (T.gl x hf).1, hc])⟩
end
end Sz
set_option Elab.async false
set_option linter.all false
set_option maxRecDepth 100000
set_option maxHeartbeats 4000000
namespace Sz
open PySem PySem.Spec PyProof.Rows L2
def mDicK (ks : List Key) (ds : List D) : ME := fun ρ μ => some (.ok (.val (.dic ks ds)), μ)
section
variable {g : G} {X : Cx} {W : WX}
theorem wp_lock {X : Cx} {e : Expr} {σ : L2.St} {H : Hp} {Q : V → Hp → Prop} (h : wpE X e σ H fun v H2 => ∃ a u, H2 a = some u ∧ Mut (some u) ∧ ∀ o, Q v (upd H2 a (.frz o u))) : wpE X e σ H Q := by
  intro pins s I
  refine thn (h pins s I) fun u s1 ⟨v, H1, I1, rv, a, o, h1, h2, h3⟩ => ?_
  obtain ⟨od, I2⟩ := I1.lock h1 h2
  exact ⟨v, _, I2, rv, h3 od⟩
theorem rep_dic {F H : Hp} {as : List Addr} {μ : Sto} {p : Addr} {ob : Obj} {ks : List Key} {ds : List D} {vs : List V} (sr : SR g F as μ H) (hp : H p = none) (hr : Reps g F ds vs) (hl : vs.length = ks.length) :
    ∃ F', Ext F as F' as ∧ SR g F' as μ (upd H p (.frz ob (.dK (ks.zip vs)))) ∧ Rep g F' (.dic ks ds) (.ref p) := by
  obtain ⟨r1, f1, n1⟩ := sr.loose (o := .frz ob (.dK (ks.zip vs))) hp
  obtain ⟨r2, x2, e2⟩ := r1.freeze (vs := []) upd_same f1 n1
  refine ⟨_, x2, r2, ?_⟩
  unfold Rep
  exact ⟨p, ob, vs, rfl, e2, hl, hr.mono x2.1⟩
theorem se_dic0 {pos : Pos} : SE g X W (.Dict [] [] pos) (mDicK [] []) := by
  refine ⟨fun F as ρ μ σ H Q r μ' h sr er post => wp_lock (wE pe_dnewK ?_)⟩
  cases h
  intro p hp
  refine ⟨p, _, upd_same, trivial, fun ob => ?_⟩
  rw [upd_upd]
  obtain ⟨F', x, s, rep⟩ := rep_dic (ob := ob) (ks := []) (vs := []) sr hp Reps.nil rfl
  exact post F' as _ _ x s rep
end
end Sz
set_option Elab.async false
set_option linter.all false
set_option maxRecDepth 100000
set_option maxHeartbeats 4000000
namespace Sz
open PySem PySem.Spec L2
section
variable {exm : Nat → Nat → Option Bool} {b : MS} {ls : List SCl} {l : SCl} {ρ : En} {μ : Sto} {c d : Nat} {fs : List D} {s : S} {i : Option Nat} {m : MS} {r : Option (Option SCl)}
theorem mDicK_ap {ks : List Key} {ds : List D} : mDicK ks ds ρ μ = some (.ok (.val (.dic ks ds)), μ) := Eq.trans rfl rfl
end
end Sz
set_option Elab.async false
set_option linter.all false
set_option maxRecDepth 100000
set_option maxHeartbeats 4000000
namespace Sz
open PySem PySem.Spec PyProof.Rows L2
theorem own_pot {is ds : List D} {μ : Sto} : own true (.pot none is ds) μ = (.cell (μ ++ [C.lst is]).length, μ ++ [C.lst is] ++ [C.pot μ.length ds]) := Eq.trans rfl rfl
end Sz
set_option Elab.async false
set_option linter.all false
set_option maxRecDepth 100000
set_option maxHeartbeats 4000000
namespace Sz
open PySem PySem.Spec PyProof.Rows L2
/-- what the written part says of such a class over the built-in base of number b -/
structure OeC (K : PySem.W.Frag) (C : Addr) (b : Nat) : Prop where
  ini : PySem.W.excInitIn K C (bmOf b) (newOf b) = true
  ovr : PySem.W.excOver K C (bmOf b) = true
  hd : PySem.W.hasDictIn K C = true
  sa : PySem.W.findIn K (.ref C) "__setattr__" = some (some (.builtin "object.__setattr__"))
  exC : PySem.W.subIn K (.ref C) (.type "BaseException") = some true
  tyC : PySem.W.typeIn K (.ref C) = some (.type "type")
  kC : PySem.W.keepIn K (.ref C) = true
theorem stF : ∀ b : Nat, ∃ B, StoreFacts B (bmOf b) "object.__setattr__" "object"
  | 0 => ⟨_, PySem.F.store_ValueError⟩
  | 1 => ⟨_, PySem.F.store_ZeroDivisionError⟩
  | 2 => ⟨_, PySem.F.store_LookupError⟩
  | _ + 3 => ⟨_, PySem.F.store_IndexError⟩
theorem base_ini : ∀ b : Nat, ∃ B, ExcBaseFacts B (newOf b) (iniOf b) (bmOf b)
  | 0 => ⟨_, PySem.F.excBase_ValueError⟩
  | 1 => ⟨_, PySem.F.excBase_ZeroDivisionError⟩
  | 2 => ⟨_, PySem.F.excBase_LookupError⟩
  | _ + 3 => ⟨_, PySem.F.excBase_IndexError⟩
section
open Builtin Builtin.ObjectAttr
variable {prog : Program} {w : World} {A : Around} {E : Value → Shared → Prop} {R : Result → Shared → Prop} {hp : Heap} {g : Array GenState} {d : Drawn} {t : Nat} {os : OsState}
theorem oe_new {K : PySem.W.Frag} {b : Nat} {name : Str} {tk : Tok} {v : Value} {x C : Addr} {fv : Array Value} (T : OeC K C b) (X : K.In hp) (hx : hp.get? x = some { cls := .ref C, data := .fields fv }) (ha : PySem.W.takerIn K C name = some none)
    (hq : ∀ h' tk' dx, (∀ b o, b ≠ x → hp.get? b = some o → h'.get? b = some o) → hp.objs.size ≤ dx → dx ≠ x → h'.get? x = some { cls := .ref C, dict := some dx, data := .fields fv } →
      h'.Ns1 dx (fun y => if y = name then some v else none) → R (.ok (.ret .none)) ⟨h', g, d, tk', os⟩) :
    codeAny (model prog w) A (.call (.builtin "object.__setattr__") ⟨[.ref x, .str name tk, v], []⟩) R ⟨hp, g, d, t, os⟩ := by
  obtain ⟨B, SF⟩ := stF b
  have hxs : x ≠ hp.objs.size := Nat.ne_of_lt (Heap.lt_size hx)
  refine PySem.W.osa_openX (s := ⟨hp, g, d, t, os⟩) (od := none) SF X ⟨hx, rfl, rfl, trivial⟩ T.ovr ha fun bb => ?_
  obtain ⟨cd, hcd, hh⟩ := PySem.W.any_some T.hd
  obtain ⟨nm, bs, mro, ns, qn, hd, sn, sb, ab, col, del⟩ := cd
  dsimp only at hh
  subst hh
  have hcls : PySem.W.Looks (model prog w) hp (classData C) _ := PySem.W.looks_clsIn X hcd
  dsimp only
  unfold storeInOwnDict ownDictForStores
  repeat (first | with_reducible refine HandSPX.store_in_new ?_ ?_ | with_reducible refine wpAny_loadPart_at hx ?_ | with_reducible refine hcls.at ?_ | wp_step)
  · exact ⟨_, #[], _, (Heap.get?_update_ne _ _ _ _ hxs.symm).trans (Heap.get?_push_at rfl rfl), rfl, fun e he => absurd he (by simp), fun _ => rfl⟩
  · intro h' tk' hn' hs
    have hx₁ : (hp.push { cls := .type "dict", data := .dict #[] }).get? x = some { cls := .ref C, data := .fields fv } := Heap.get?_push_of_some _ hx
    refine hq h' tk' hp.objs.size (fun b o hb ho => ?_) (Nat.le_refl _) hxs.symm ?_ hn'
    · exact (hs.2 b (Nat.ne_of_lt (Heap.lt_size ho))).trans ((Heap.get?_update_ne _ _ _ _ hb).trans (Heap.get?_push_of_some _ ho))
    · exact (hs.2 x hxs).trans (Heap.get?_update_self _ hx₁ rfl)
theorem oe_old {K : PySem.W.Frag} {b : Nat} {name : Str} {tk : Tok} {v : Value} {x C dx : Addr} {fv : Array Value} {m0 : Str → Option Value} {nl : List Str} (T : OeC K C b) (X : K.In hp) (hx : hp.get? x = some { cls := .ref C, dict := some dx, data := .fields fv })
    (hns : hp.Ns1 dx m0) (hw : Within m0 nl) (hz : nl.length ≤ 1000) (ha : PySem.W.takerIn K C name = some none)
    (hq : ∀ h' tk', (∀ b o, b ≠ dx → hp.get? b = some o → h'.get? b = some o) → h'.Ns1 dx (fun y => if y = name then some v else m0 y) → R (.ok (.ret .none)) ⟨h', g, d, tk', os⟩) :
    codeAny (model prog w) A (.call (.builtin "object.__setattr__") ⟨[.ref x, .str name tk, v], []⟩) R ⟨hp, g, d, t, os⟩ := by
  obtain ⟨B, SF⟩ := stF b
  obtain ⟨oD, esD, epD, hoD, hdD, _⟩ := hns.count hw
  refine PySem.W.osa_openX (s := ⟨hp, g, d, t, os⟩) (od := some oD) SF X ⟨hx, rfl, rfl, hoD⟩ T.ovr ha fun bb => ?_
  obtain ⟨cd, hcd, hh⟩ := PySem.W.any_some T.hd
  obtain ⟨nm, bs, mro, ns, qn, hd, sn, sb, ab, col, del⟩ := cd
  dsimp only at hh
  subst hh
  have hcls : PySem.W.Looks (model prog w) hp (classData C) _ := PySem.W.looks_clsIn X hcd
  dsimp only
  unfold storeInOwnDict ownDictForStores
  repeat (first | with_reducible refine PySem.OEX.store_in_old hns hw hz ?_ | with_reducible refine wpAny_loadPart_at hx ?_ | with_reducible refine hcls.at ?_ | wp_step)
  intro h' tk' hn' hs
  exact hq h' tk' (fun b o hb ho => (hs.2 b hb).trans ho) hn'
end
section
variable {X : Cx} {pins : List (Addr × Obj)} {σ : L2.St} {H : Hp} {s : Shared} {a C dx : Addr} {f : Str} {y : V} {u : Value} {fs : List (Str × V)} {Q : Unit → Shared → Prop} {E : Value → Shared → Prop} {A : Around} {b : Nat}
theorem oeI_new (T : OeC X.K C b) (I : Inv X pins σ H s) (e : H a = some (exo a C none)) (hno : PySem.W.takerIn X.K C f = some none) (ry : RelV y u)
    (h : ∀ dx s', H dx = none → dx ≠ a → Inv X pins σ (upd (upd H dx (exd dx [(f, y)])) a (exo a C (some dx))) s' → Q () s') : wpAny (model X.prog X.w) A (setAttr (.ref a) f u) Q E s := by
  obtain ⟨t1, ho⟩ := exo_at I.hok e
  obtain ⟨hp, g, d, t, os⟩ := s
  refine PySem.W.set_plain I.kIn (ox := { cls := .ref C, dict := none, data := .fields #[.ref t1, .none, .none, .none, .bool false, .none] }) (od := none) ⟨ho, rfl, rfl, trivial⟩ T.sa ?_
  refine oe_new T I.kIn ho hno (fun h' tk' dx k dn dne hx hn => ?_)
  have hnd : H dx = none := I.hok.fresh dn
  have nd : ∀ {b : Addr} {o : Obj}, hp.get? b = some o → b ≠ dx := fun {b o} q => Nat.ne_of_lt (Nat.lt_of_lt_of_le (Heap.lt_size q) dn)
  have na : ∀ {b : Addr}, H b = none → b ≠ a := fun {b} n z => by
    rw [z, e] at n
    cases n
  have U : Un X.fs [] H (upd (upd H dx (exd dx [(f, y)])) a (exo a C (some dx))) hp h' := {
    keep := fun b o q n _ _ => k b o (na n) q
    slot := fun b o q n _ _ => ⟨o.slots, k b o (na n) q⟩
    free := fun b o q n _ => by rw [upd_ne (na n), upd_ne (nd q)]; exact n
    there := fun b o q _ => by
      by_cases hb : b = a
      · exact ⟨_, by rw [hb]; exact hx⟩
      · exact ⟨o, k b o hb q⟩
    tups := fun b xs q => by rw [upd_ne (at_ne e q exo_tup), upd_ne (ne_of_none q hnd)]; exact q
    frzs := fun b o v q => by rw [upd_ne (at_ne e q exo_frz), upd_ne (ne_of_none q hnd)]; exact q
    tbls := fun b ps q => ⟨#[], by rw [upd_ne (at_ne e q exo_tbl), upd_ne (ne_of_none q hnd), q]; simp⟩ }
  refine h dx _ hnd dne (I.un (t' := tk') U fun b o q => ?_)
  by_cases hb : b = a
  · subst hb
    rw [upd_same] at q
    cases q
    exact exo_ok hx
  · rw [upd_ne hb] at q
    by_cases hd : b = dx
    · subst hd
      rw [upd_same] at q
      cases q
      exact exd_ok hn (relO_put (fs := []) ry fun g => True.intro)
    · rw [upd_ne hd] at q
      exact (I.hok b o q).stay (fun c v hc z => k c v (by
          rcases hc with hc | hc
          · rw [hc]
            exact hb
          · exact at_ne e hc exo_own) z)
        (fun c hc => by rw [upd_ne (at_ne e hc exo_own), upd_ne (ne_of_none hc hnd)]; exact hc) (fun c xs hc => by rw [upd_ne (at_ne e hc exo_tup), upd_ne (ne_of_none hc hnd)]; exact hc)
theorem oeI_old (T : OeC X.K C b) (I : Inv X pins σ H s) (e : H a = some (exo a C (some dx))) (ed : H dx = some (exd dx fs)) (hl : fs.length ≤ 900) (hno : PySem.W.takerIn X.K C f = some none) (ry : RelV y u)
    (h : ∀ s', Inv X pins σ (upd H dx (exd dx ((f, y) :: fs))) s' → Q () s') : wpAny (model X.prog X.w) A (setAttr (.ref a) f u) Q E s := by
  obtain ⟨t1, ho⟩ := exo_at I.hok e
  obtain ⟨mA, hns, rel⟩ := exd_at I.hok ed
  have hw := within_of rel
  obtain ⟨hp, g, d, t, os⟩ := s
  obtain ⟨oD, _, _, hoD, _, _⟩ := hns.count hw
  refine PySem.W.set_plain I.kIn (ox := { cls := .ref C, dict := some dx, data := .fields #[.ref t1, .none, .none, .none, .bool false, .none] }) (od := some oD) ⟨ho, rfl, rfl, hoD⟩ T.sa ?_
  refine oe_old T I.kIn ho hns hw (by rw [List.length_map]; omega) hno (fun h' tk' k hn => ?_)
  have hd : ∃ o, h'.get? dx = some o := by
    obtain ⟨o, _, _, e', _⟩ := hn
    exact ⟨o, e'⟩
  exact h _ (I.write (t' := tk') (x := dx) (e := dx) (o := exd dx ((f, y) :: fs)) (by rw [ed]; exact True.intro) (.inl rfl) k hd (exd_ok hn (relO_put ry rel)))
theorem oeI_init {us : List Value} {Q : Value → Shared → Prop} (T : OeC X.K C b) (I : Inv X pins σ H s) (e : H a = some (exo a C none)) (hl : us.length ≤ sizeLine) (h : ∀ s', Inv X pins σ H s' → Q .none s') :
    wpAny (model X.prog X.w) A (call (.builtin (iniOf b)) (.ref a :: us)) Q E s := by
  obtain ⟨t1, ho⟩ := exo_at I.hok e
  obtain ⟨B, FB⟩ := base_ini b
  obtain ⟨hp, g, d, t, os⟩ := s
  obtain ⟨nm, N', qn, bs, bm, hdct, sn, sub, ab, col, dd, k0, k1, k2, k3, k5, hC, hT⟩ := PySem.W.excInit_of I.kIn T.ini
  refine wpAny_call (PySem.HandSPX.init_base FB hT hC ho hl fun h' t2 k hx => ?_)
  have J := I.write (t' := t) (x := a) (e := a) (o := exo a C none) (by rw [e]; exact True.intro) (.inl rfl) k ⟨_, hx⟩ (exo_ok hx)
  have eu : upd H a (exo a C none) = H := by
    funext b
    by_cases hb : b = a
    · rw [hb, upd_same, e]
    · rw [upd_ne hb]
  rw [eu] at J
  exact h _ J
end
/-- an own class at CB, its __init__ the built-in base's -/
structure BiC (K : PySem.W.Frag) (CB : Addr) (b : Nat) : Prop where
  ga : PySem.W.specialIn K (.ref CB) "__getattribute__" = some (some (.builtin "type.__getattribute__"))
  rd : PySem.W.readsIn K CB (.type "type") = true
  fi : PySem.W.findCls K (.ref CB) (.type "type") "__init__" = some (.val (.builtin (iniOf b)))
def tIni (K : PySem.W.Frag) (b : Nat) (ta : TA) : TE := fun σ H Q => ta σ H fun vs H1 => ∃ (a C : Addr) (ws : List V), vs = .ref a :: ws ∧ ws.length ≤ 1000 ∧ OeC K C b ∧ H1 a = some (exo a C none) ∧ Q .non H1
def tOsf (K : PySem.W.Frag) (b : Nat) (f : Str) (to te : TE) : TS := fun D σ H => te σ H fun y H1 => to σ H1 fun x H2 => ∃ a C : Addr, x = .ref a ∧ OeC K C b ∧ PySem.W.takerIn K C f = some none ∧
  ((H2 a = some (exo a C none) ∧ ∀ dx, H2 dx = none → dx ≠ a → D.nx σ (upd (upd H2 dx (exd dx [(f, y)])) a (exo a C (some dx)))) ∨
    ∃ (dx : Addr) (fs : List (Str × V)), H2 a = some (exo a C (some dx)) ∧ H2 dx = some (exd dx fs) ∧ fs.length ≤ 900 ∧ D.nx σ (upd H2 dx (exd dx ((f, y) :: fs))))
theorem han_ini : ∀ b, PySem.W.handedIn (.builtin (iniOf b)) = true
  | 0 => by decide +kernel
  | 1 => by decide +kernel
  | 2 => by decide +kernel
  | _ + 3 => (show PySem.W.handedIn (.builtin "IndexError.__init__") = true by decide +kernel)
section
variable {X : Cx} {o e : Expr} {es : List Expr} {to te : TE} {ta : TA} {f x : Str} {p p' p1 p2 pos : Pos} {b : Nat} {CB : Addr}
theorem pe_ini (hg : Gl X x) (hm : X.mg x = some (.ref CB)) (hdb : (x == ("__debug__" : Str)) = false) (bi : BiC X.K CB b) (ha : PA X (e :: es) ta) (hst : (e :: es).all notStar = true) (hf : methForm p2 pos (e :: es) [] = true) :
    PE X (.Call (.Attribute (.Name x p1) "__init__" p2) (e :: es) [] pos) (tIni X.K b ta) := by
  refine ⟨fun pins s σ H Q I h => ?_⟩
  refine meth_tree (ks := []) rfl hst rfl hf (ld_glob I hg hm ?_ hdb)
  refine PySem.W.method_cls I.kIn bi.ga (PySem.W.cls_value I.kIn bi.rd bi.fi (han_ini b) ?_)
  show wpAny _ _ (callWith pos (Value.builtin (iniOf b)) [] (backTo pos (starEach (e :: es) X.env)) []) _ _ _
  rw [List.all_cons, Bool.and_eq_true] at hst
  refine PyProof.Rows.callWith_method1 (thn (ha.run pos pins _ σ H _ (I.tok _) h) fun us s1 ⟨vs, H1, I1, r1, a, C, ws, ev, hl, T, ea, q⟩ => ?_) (starEach_cons hst.1) (starEach_plain hst.2)
  subst ev
  cases r1 with
  | @cons _ u0 _ ur ra rw' =>
    obtain rfl : u0 = Value.ref a := ra
    have hlen : ur.length ≤ sizeLine := by
      rw [← Paired.length rw', sizeLine_eq]
      omega
    exact oeI_init T I1 ea hlen fun s' J => ⟨.non, H1, J, rfl, q⟩
theorem ps_osf (ho : PE X o to) (he : PE X e te) (hs : swapsWith e (some (.Attribute o f p')) pos.line X.env = pure false := by rfl) : PS X (.Assign [.Attribute o f p'] e pos) (tOsf X.K b f to te) := by
  refine ⟨fun pins s σ H D I h => ?_⟩
  refine plainObj_wpAny_Assign_Attribute (thn (he.run pins s σ H _ I h) fun v s1 ⟨y, H1, I1, r1, q1⟩ => thn (ho.run pins s1 σ H1 _ I1 q1) fun u s2 ⟨x, H2, I2, r2, a, C, ex, T, hno, q⟩ => ?_) hs
  subst ex
  obtain rfl : u = Value.ref a := r2
  rcases q with ⟨ea, q⟩ | ⟨dx, fs, ea, ed, hl, q⟩
  · exact oeI_new T I2 ea hno r1 fun dx s' n ne J => ⟨σ, _, J, q dx n ne⟩
  · exact oeI_old T I2 ea ed hl hno r1 fun s' J => ⟨σ, _, J, q⟩
end
/-- what it does to the object; fl: the fields in the order of the stores -/
def spX (C : Addr) (fl : List Str) : Sp := fun vs H Q _ => ∃ (a : Addr) (ys : List V), vs = .ref a :: ys ∧ ys.length = fl.length ∧ H a = some (exo a C none) ∧
  ∀ dx, H dx = none → dx ≠ a → Q .non (upd (upd H dx (exd dx (fl.zip ys).reverse)) a (exo a C (some dx)))
theorem upd_twice {H : Hp} {a d : Addr} {o1 o2 u : HO} (h : d ≠ a) : upd (upd (upd H d o1) a u) d o2 = upd (upd H d o2) a u := by
  funext b
  by_cases hd : b = d
  · subst hd
    rw [upd_same, upd_ne h, upd_same]
  · by_cases ha : b = a
    · subst ha
      rw [upd_ne hd, upd_same, upd_same]
    · rw [upd_ne hd, upd_ne ha, upd_ne hd, upd_ne ha, upd_ne hd]
section
variable {g : G} {P : Program} {w : World} {mg : Str → Option Value} {base : Heap} {k : Nat} {N : List Str} {sc : Scope} {own cm gb : Bool} {X : Cx} {W : WX} {frees globs : List Str}
theorem Ct.vis {i : Nat} {x : Str} (c : Ct g P w mg base k N sc own cm gb X W) (h : varB N sc i x = true) : X.N[i]? = some x ∧ Vis X.env.scope x ∧ (x == ("__debug__" : Str)) = false ∧ (x == ("__classdict__" : Str)) = false := by
  unfold varB at h
  simp only [Bool.and_eq_true, Bool.not_eq_true'] at h
  obtain ⟨h1, h2, h3, h4⟩ := h
  refine ⟨c.at h1, ?_, h3, h4⟩
  unfold Vis
  rw [c.hsc]
  unfold visB at h2
  split at h2
  · rename_i e; exact .inl e
  · rename_i e; exact .inr (.inl e)
  · rename_i e; exact .inr (.inr e)
  · cases h2
variable {b : Nat} {xb s0 q1 q2 f1 f2 m : Str} {j : Nat} {p1 p2 p3 p4 p5 p6 p7 p8 p9 p10 p11 p12 p13 p14 : Pos} {C : Addr} {np : Nat}
/-- what a body must do -/
def IniB (X : Cx) (C : Addr) (fl : List Str) (np : Nat) (body : List Stmt) : Prop := ∃ t, PSs X body t ∧ ∀ vs H Q E, spX C fl vs H Q E → t { nx := fun _ H' => Q .non H', rt := Q } (L2.start X.N vs) H
theorem st_at0 {N : List Str} {v : V} {vs : List V} : (L2.start N (v :: vs))[0]? = some (some v) := rfl
theorem st_at1 {N : List Str} {v u : V} {vs : List V} : (L2.start N (v :: u :: vs))[1]? = some (some u) := rfl
theorem st_at2 {N : List Str} {v u z : V} {vs : List V} : (L2.start N (v :: u :: z :: vs))[2]? = some (some z) := rfl
theorem ini1 (c : Ct g P w mg base k N sc own cm gb X W) (T : Tb g mg frees globs) (hb : glB sc xb = true) (hf : globs.contains xb = true) (bi : BiC g.K (He.ga g.K xb) b) (oe : OeC g.K C b) (h0 : varB N sc 0 s0 = true) (h1 : varB N sc 1 q1 = true) (ht : PySem.W.takerIn g.K C f1 = some none) (hw : methForm p2 p5 [.Name s0 p3, .Constant (.str m) j p4] [] = true) :
    IniB X C [f1] np [.Expr (.Call (.Attribute (.Name xb p1) "__init__" p2) [.Name s0 p3, .Constant (.str m) j p4] [] p5) p6, .Assign [.Attribute (.Name s0 p7) f1 p8] (.Name q1 p9) p10] := by
  obtain ⟨g1, g2, g3⟩ := c.gl hb
  obtain ⟨a1, a2, a3, a4⟩ := c.vis h0
  obtain ⟨b1, b2, b3, b4⟩ := c.vis h1
  have hm : X.mg xb = some (.ref (He.ga g.K xb)) := by rw [c.hmg]; exact (T.gl xb hf).1
  have bi' : BiC X.K (He.ga g.K xb) b := by rw [c.hK]; exact bi
  have oe' : OeC X.K C b := by rw [c.hK]; exact oe
  have ht' : PySem.W.takerIn X.K C f1 = some none := by rw [c.hK]; exact ht
  refine ⟨_, pss_cons (ps_expr (pe_ini g1 hm g2 bi' (pa_cons (pe_var a1 a2 a3 a4) (pa_cons pe_str pa_nil)) rfl hw)) (pss_one (ps_osf (b := b) (pe_var a1 a2 a3 a4) (pe_var b1 b2 b3 b4))), ?_⟩
  rintro vs H Q E ⟨a, ys, rfl, hl, ha, q⟩
  obtain ⟨y, rfl⟩ : ∃ y, ys = [y] := by
    cases ys with
    | nil => cases hl
    | cons y r => cases r with
      | nil => exact ⟨y, rfl⟩
      | cons _ _ => cases hl
  refine ⟨_, st_at0, a, C, _, rfl, by show (1 : Nat) ≤ 1000; omega, oe', ha, ?_⟩
  exact ⟨_, st_at1, _, st_at0, a, C, rfl, oe', ht', .inl ⟨ha, fun dx n ne => q dx n ne⟩⟩
theorem ini2 (c : Ct g P w mg base k N sc own cm gb X W) (T : Tb g mg frees globs) (hb : glB sc xb = true) (hf : globs.contains xb = true) (bi : BiC g.K (He.ga g.K xb) b) (oe : OeC g.K C b) (h0 : varB N sc 0 s0 = true) (h1 : varB N sc 1 q1 = true) (h2 : varB N sc 2 q2 = true) (ht : PySem.W.takerIn g.K C f1 = some none) (ht2 : PySem.W.takerIn g.K C f2 = some none) (hw : methForm p2 p5 [.Name s0 p3, .Constant (.str m) j p4] [] = true) :
    IniB X C [f1, f2] np [.Expr (.Call (.Attribute (.Name xb p1) "__init__" p2) [.Name s0 p3, .Constant (.str m) j p4] [] p5) p6, .Assign [.Attribute (.Name s0 p7) f1 p8] (.Name q1 p9) p10, .Assign [.Attribute (.Name s0 p11) f2 p12] (.Name q2 p13) p14] := by
  obtain ⟨g1, g2, g3⟩ := c.gl hb
  obtain ⟨a1, a2, a3, a4⟩ := c.vis h0
  obtain ⟨b1, b2, b3, b4⟩ := c.vis h1
  obtain ⟨c1, c2, c3, c4⟩ := c.vis h2
  have hm : X.mg xb = some (.ref (He.ga g.K xb)) := by rw [c.hmg]; exact (T.gl xb hf).1
  have bi' : BiC X.K (He.ga g.K xb) b := by rw [c.hK]; exact bi
  have oe' : OeC X.K C b := by rw [c.hK]; exact oe
  have ht' : PySem.W.takerIn X.K C f1 = some none := by rw [c.hK]; exact ht
  have ht2' : PySem.W.takerIn X.K C f2 = some none := by rw [c.hK]; exact ht2
  refine ⟨_, pss_cons (ps_expr (pe_ini g1 hm g2 bi' (pa_cons (pe_var a1 a2 a3 a4) (pa_cons pe_str pa_nil)) rfl hw)) (pss_cons (ps_osf (b := b) (pe_var a1 a2 a3 a4) (pe_var b1 b2 b3 b4)) (pss_one (ps_osf (b := b) (pe_var a1 a2 a3 a4) (pe_var c1 c2 c3 c4)))), ?_⟩
  rintro vs H Q E ⟨a, ys, rfl, hl, ha, q⟩
  obtain ⟨y, z, rfl⟩ : ∃ y z, ys = [y, z] := by
    match ys, hl with
    | [y, z], _ => exact ⟨y, z, rfl⟩
  refine ⟨_, st_at0, a, C, _, rfl, by show (1 : Nat) ≤ 1000; omega, oe', ha, ?_⟩
  refine ⟨_, st_at1, _, st_at0, a, C, rfl, oe', ht', .inl ⟨ha, fun dx n ne => ?_⟩⟩
  refine ⟨_, st_at2, _, st_at0, a, C, rfl, oe', ht2', .inr ⟨dx, [(f1, y)], upd_same, by rw [upd_ne ne, upd_same], by show (1 : Nat) ≤ 900; omega, ?_⟩⟩
  show Q _ _
  rw [upd_twice ne]
  exact q dx n ne
/-- its promise -/
theorem fn_ini {x qual : Str} {params : Arguments} {body : List Stmt} {scope : Scope} {dvs : List V} {kws : List (Str × V)} {f : Addr} {fd : FuncData} {N ps fl : List Str} (F : FunD g.K x qual params body scope dvs kws f fd) (S : FnScope N ps scope) (hl : ps.length = fl.length + 1)
    (hb : ∀ X W, Ct g P w mg base k N scope true true false X W → IniB X C fl np body) : FnG false P w g.K mg base (CX P w) (k + 1) f fd ps (spX C fl) := by
  refine by_body F S (fun vs H Q E h => ?_) fun cdv _ A outer s H vs Q E hr hgd hsp => ?_
  · obtain ⟨a, ys, rfl, e, _⟩ := h
    rw [List.length_cons, e, hl]
  have c : Ct g P w mg base k N scope true true false (cxOf (CX P w) P w g.K mg base N qual scope f cdv A outer s H E) (fun cls d _ H => E cls d H) :=
    ⟨rfl, rfl, rfl, rfl, rfl, rfl, S.nd, S.kind, rfl, fun _ => rfl, hgd, fun _ => hr, Nat.lt_of_le_of_lt (Nat.add_le_add_right (Nat.le_add_right _ _) 200) hr.un, fun _ => rfl, fun _ => rfl, takes_of rfl rfl rfl rfl, fun _ _ => rfl, fun _ _ => passes_of rfl, fun _ => rfl⟩
  obtain ⟨t, h1, h2⟩ := hb _ _ c
  exact ⟨t, h1, h2 vs H Q E hsp⟩
end
def dvals : List S → Option (List D)
  | [] => some []
  | .val d :: ss => (dvals ss).map (d :: ·)
  | _ => none
def oVals : List (Option D) → Option (List D)
  | [] => some []
  | some d :: ss => (oVals ss).map (d :: ·)
  | none :: _ => none
/-- such a class, its __init__'s promise -/
structure ExI (g : G) (P : Program) (w : World) (mg : Str → Option Value) (base : Heap) (c b : Nat) (fl ps : List Str) (dfl : List D) (k : Nat) (sh : List (Nat × List Str)) : Prop where
  oe : OeC g.K (g.cad c) b
  flc : g.fl c = fl.reverse
  np : ps.length = fl.length + 1
  ini : ∃ fI fd dvs, PySem.W.findIn g.K (.ref (g.cad c)) "__init__" = some (some (.ref fI)) ∧ PySem.W.typeIn g.K (.ref fI) = some (.type "function") ∧ FnG false P w g.K mg base (CX P w) k fI fd ps (spX (g.cad c) fl) ∧ (∀ q ∈ sh, Bnd g.K fd ps q.1 q.2 dvs) ∧ ∀ F, Reps g F dfl dvs
/-- a value of the object that is made, or of a field -/
def RN (g : G) (F : Hp) (a : Addr) : Option D → V → Prop
  | none, v => v = .ref a
  | some d, v => Rep g F d v
theorem rn_some {g : G} {F : Hp} {a : Addr} : ∀ {ds : List D} {vs : List V}, Reps g F ds vs → Paired (RN g F a) (ds.map some) vs
  | [], vs, h => by rw [Reps.nil_iff.mp h]; exact .nil
  | d :: ds, vs, h => by
    obtain ⟨v, r, rfl, h1, h2⟩ := Reps.cons_iff.mp h
    exact .cons h1 (rn_some h2)
theorem rn_back {g : G} {F : Hp} {a : Addr} : ∀ {os : List (Option D)} {ds : List D} {vs : List V}, Paired (RN g F a) os vs → oVals os = some ds → Reps g F ds vs
  | [], ds, vs, h, e => by
    cases e
    cases h
    exact Reps.nil
  | none :: os, ds, vs, h, e => by cases e
  | some d :: os, ds, vs, h, e => by
    obtain ⟨ds', e1, rfl⟩ := Option.map_eq_some_iff.mp (show (oVals os).map (d :: ·) = some ds from e)
    cases h with
    | cons h1 h2 => exact Reps.cons h1 (rn_back h2 e1)
theorem dv_reps {g : G} {F : Hp} {as : List Addr} : ∀ {ss : List S} {ds : List D} {vs : List V}, RSs g F as ss vs → dvals ss = some ds → Reps g F ds vs
  | [], ds, vs, h, e => by
    cases e
    cases h
    exact Reps.nil
  | s :: ss, ds, vs, h, e => by
    cases h with
    | cons h1 h2 =>
      cases s with
      | val d =>
        obtain ⟨ds', e1, rfl⟩ := Option.map_eq_some_iff.mp (show (dvals ss).map (d :: ·) = some ds from e)
        exact Reps.cons h1 (dv_reps h2 e1)
      | fr _ => cases e
      | cell _ => cases e
      | any => cases e
      | pot _ _ _ => cases e
theorem reps_rev {g : G} {F : Hp} {ds : List D} {vs : List V} (h : Reps g F ds vs) : Reps g F ds.reverse vs.reverse := by
  have key : ∀ {ds : List D} {vs : List V} {es : List D} {us : List V}, Reps g F ds vs → Reps g F es us → Reps g F (ds.reverse ++ es) (vs.reverse ++ us) := by
    intro ds
    induction ds with
    | nil =>
      intro vs es us h1 h2
      rw [Reps.nil_iff.mp h1]
      exact h2
    | cons d ds ih =>
      intro vs es us h1 h2
      obtain ⟨v, r, rfl, e1, e2⟩ := Reps.cons_iff.mp h1
      have := ih e2 (Reps.cons e1 h2)
      rw [List.reverse_cons, List.reverse_cons, List.append_assoc, List.append_assoc]
      exact this
  have := key h (Reps.nil (g := g) (F := F))
  rw [List.append_nil, List.append_nil] at this
  exact this
theorem zip_rev {α β : Type} : ∀ {l : List α} {m : List β}, l.length = m.length → (l.zip m).reverse = l.reverse.zip m.reverse
  | [], [], _ => rfl
  | a :: l, b :: m, h => by
    have h' : l.length = m.length := by
      rw [List.length_cons, List.length_cons] at h
      omega
    rw [List.zip_cons_cons, List.reverse_cons, List.reverse_cons, List.reverse_cons, zip_rev h', List.zip_append (by rw [List.length_reverse, List.length_reverse, h'])]
    rfl
  | [], b :: m, h => by cases h
  | a :: l, [], h => by cases h
theorem upd_made {H : Hp} {a d : Addr} {o1 o2 o3 u : HO} (h : d ≠ a) (ha : H a = none) : upd (del (upd (upd (upd H a o1) d o2) a o3) a) d u = upd H d u := by
  funext b
  by_cases hd : b = d
  · subst hd
    rw [upd_same, upd_same]
  · rw [upd_ne hd, upd_ne hd]
    by_cases hb : b = a
    · subst hb
      rw [del_same, ha]
    · rw [del_ne hb, upd_ne hb, upd_ne hd, upd_ne hb]
end Sz
set_option Elab.async false
set_option linter.all false
set_option maxRecDepth 100000
set_option maxHeartbeats 4000000
namespace PySem.W
open PySem PySem.Spec PySem.Calls PyProof.Rows
section
variable {prog : Program} {w : World} {A : Around} {E : Value → Shared → Prop} {s : Shared} {K : Frag} {x D : Addr} {ox : Obj} {od : Option Obj}
theorem sz_findO {C : Addr} {name : Str} {a g : Value} (hc : (clsIn K C).isSome = true) (ha : findIn K (.ref C) name = some (some a)) (hg : specialIn K a "__get__" = some (some g)) (ht : takesIn K a = some true) : findObj K C od name = some (.bind g a) := by
  obtain ⟨cd, hc⟩ := Option.isSome_iff_exists.mp hc
  unfold findObj
  rw [hc, Option.bind_some, ha, Option.bind_some]
  simp [hg, ht]
theorem sz_class {Q : Option Value → Shared → Prop} (hga : findIn K (.ref D) "__getattribute__" = some (some (.builtin "BaseException.__getattribute__"))) (hgt : findIn K (.ref D) "__getattr__" = some none) (hsub : subIn K (.ref D) (.type "BaseException") = some true)
    (hdct : hasDictIn K D = true) (ha : findIn K (.ref D) "__class__" = some (some (.builtin "object.__class__")))
    (hn : specialIn K (.builtin "object.__class__") "__get__" = some (some (.builtin "getset_descriptor.__get__"))) (htk : takesIn K (.builtin "object.__class__") = some true) (hm : mroIn K D (.type "object") = some true)
    (X : K.In s.heap) (I : InstAt s.heap x ox D od) (h : Q (some (.ref D)) { s with toks := s.toks + 1 }) : wpAny (model prog w) A (getAttr? (.ref x) "__class__") Q E s := by
  have hf : findObj K D od "__class__" = some (.bind (.builtin "getset_descriptor.__get__") (.builtin "object.__class__")) := sz_findO (by obtain ⟨cd, hc, _⟩ := any_some hdct; rw [hc]; rfl) ha hn htk
  obtain ⟨hp, g, d, t, os⟩ := s
  have L0 := I.type (M := model prog w)
  have L1 := looks_findIn (M := model prog w) X hga
  have L2 := looks_findIn (M := model prog w) X hgt
  have L3 := looks_find (M := model prog w) X I hf
  have sub : Looks (model prog w) hp (isInstance (.ref x) (.type "BaseException")) true := L0.andThen (looks_subIn X hsub)
  have hx0 : (false && onTheHeap (Value.builtin "BaseException.__getattribute__")) = false := rfl
  have hx2 : (Value.builtin "BaseException.__getattribute__" == Value.builtin "object.__getattribute__") = false := by decide +kernel
  have hx1 : (onTheHeap (Value.ref D) && Value.builtin "BaseException.__getattribute__" == Value.builtin "object.__getattribute__") = false := by rw [hx2]; rfl
  unfold getAttr? getAttrBy? getAttrBy
  refine wpAny_bind (wpAny_mkText (wpAny_bind (wpAny_attempt (wpAny_holding (wpAny_bind (L0.at (wpAny_bind (L1.at ?_))))))))
  show wpAny _ _ (if (onTheHeap (Value.ref D) && Value.builtin "BaseException.__getattribute__" == Value.builtin "object.__getattribute__") = true then _ else _) _ _ _
  rw [hx1, if_neg Bool.false_ne_true]
  unfold getAttrByItsOwn hookBefore
  refine wpAny_bind ?_
  rw [if_pos (show onTheHeap (Value.ref D) = true from rfl)]
  refine L2.at ?_
  refine wpAny_bind (wpAny_attempt (wpAny_holding ?_))
  unfold callGetattribute
  rw [hx0, if_neg Bool.false_ne_true]
  unfold boundAndCalled
  rw [PySem.F.excAttr_ValueError.ga.bind (.ref x)]
  refine wpAny_bind (wpAny_pure ?_)
  show wpAny _ _ (call (.builtin "BaseException.__getattribute__") [.ref x, .str "__class__" t]) _ _ _
  refine wpAny_call (codeAny_call_builtin PySem.F.excAttr_ValueError.ga.plain PySem.F.entry_bexc_ga ?_)
  refine @check_slot (model prog w) _ _ ⟨hp, g, d, t + 1, os⟩ "BaseException.__getattribute__" "BaseException" "__getattribute__" (.ref x) [.str "__class__" t] [] _ (by decide +kernel) (by decide +kernel) sub (PySem.F.args_bexc_ga (.ref x) (.str "__class__" t)) ?_
  unfold Builtin.«object.__getattribute__»
  refine wpAny_bind (wpAny_of_eq (a := ((Value.ref x : Value), [Value.str "__class__" t])) (by first | rfl | (simp only [slotArgs]; rfl)) ?_)
  refine wpAny_bind (wpAny_pure (wpAny_bind (L0.at (wpAny_bind (L3.at ?_)))))
  show wpAny _ _ (holding [Value.builtin "object.__class__"] (call (.builtin "getset_descriptor.__get__") [.builtin "object.__class__", .ref x, .ref D]) >>= ret) _ _ _
  refine wpAny_bind (wpAny_holding (wpAny_call (class_get (s := ⟨hp, g, d, t + 1, os⟩) (ox := ox) (od := od) X I hm ?_)))
  refine wpAny_pure ?_
  show wpAny _ _ (handedOut (.ref D)) _ _ _
  rw [handedOut_of (v := .ref D) rfl]
  first
    | exact wpAny_pure (wpAny_pure h)
    | exact wpAny_pure h
    | exact wpAny_pure (wpAny_bind (wpAny_pure (wpAny_pure h)))
theorem sz_kitx (hga : findIn K (.ref D) "__getattribute__" = some (some (.builtin "BaseException.__getattribute__"))) (hgt : findIn K (.ref D) "__getattr__" = some none) (hsub : subIn K (.ref D) (.type "BaseException") = some true) (hdct : hasDictIn K D = true) (ha : findIn K (.ref D) "__class__" = some (some (.builtin "object.__class__")))
    (hn : specialIn K (.builtin "object.__class__") "__get__" = some (some (.builtin "getset_descriptor.__get__"))) (htk : takesIn K (.builtin "object.__class__") = some true) (hm : mroIn K D (.type "object") = some true) :
    KitX K (.ref x) (.ref D) (fun h => InstAt h x ox D od) where
  ty := fun _ _ _ I => I.type
  it := fun _ _ X _ => by
    obtain ⟨cdD, hcD, _⟩ := any_some hdct
    unfold clsIn at hcD
    split at hcD
    · rename_i c' d' cd' sl' ho
      intro A' Q' E' s' k q
      unfold isType loadHead
      exact wpAny_bind (wpAny_loadPart (k _ _ (X _ _ ho)) (wpAny_pure q))
    · cases hcD
  ne := fun h tp dd its n sl X htp => by
    obtain ⟨cdD, hcD, _⟩ := any_some hdct
    refine Bool.eq_false_iff.mpr fun q => ?_
    have e : D = tp := Value.ref.inj (beq_iff_eq.mp q)
    subst e
    unfold clsIn at hcD
    split at hcD
    · rename_i c' d' cd' sl' ho
      have z := (X _ _ ho).symm.trans htp
      cases z
    · cases hcD
  ca := fun X I k => sz_class hga hgt hsub hdct ha hn htk hm X I k
end
end PySem.W
namespace Sz
open PySem PySem.Spec PyProof.Rows L2
/-- what is caught, in the heap: its object, its dict -/
theorem exc_at {X : Cx} {g : G} {pins : List (Addr × Obj)} {σ : L2.St} {F H : Hp} {as : List Addr} {μ : Sto} {st : Shared} {c : Nat} {fs : List D} {v : V} (sr : SR g F as μ H) (r : Rep g F (.exc c fs) v) (I : Inv X pins σ H st) :
    ∃ a oe od, v = .ref a ∧ PySem.W.InstAt st.heap a oe (g.cad c) od ∧ (fs ≠ [] → ∃ dx vs mA o, od = some o ∧ H dx = some (.xd ((g.fl c).zip vs)) ∧ vs.length = (g.fl c).length ∧ Reps g F fs vs ∧ st.heap.Ns1 dx mA ∧ st.heap.get? dx = some o ∧ ∀ f, RelO (((g.fl c).zip vs).lookup f) (mA f)) := by
  unfold Rep at r
  obtain ⟨a, oe, dx, vs, rfl, e2, e3, ⟨ws, e4⟩, e5, e6, e8, e7⟩ := r
  have h := I.hok a _ (sr.sub _ _ e2)
  have hget : st.heap.get? a = some oe := h.1
  obtain ⟨oc, od, oda, osl⟩ := oe
  dsimp only at e3 e4
  subst e3 e4
  cases od with
  | none =>
    have hv : vs = [] := e6 (fun z => by cases z)
    refine ⟨a, _, none, rfl, ⟨hget, rfl, rfl, trivial⟩, fun hne => absurd ?_ hne⟩
    subst hv
    cases fs with
    | nil => rfl
    | cons d ds =>
      obtain ⟨_, _, z, _⟩ := Reps.cons_iff.mp e7
      cases z
  | some d =>
    by_cases hd : d = dx
    · subst hd
      obtain ⟨k1, k2⟩ := e5 rfl
      have hx := I.hok d _ (sr.sub _ _ k1)
      obtain ⟨mA, hns, hr⟩ := (show ObjOk X.prog X.w H st.heap d (.xd ((g.fl c).zip vs)) from hx)
      obtain ⟨o, ho, hl⟩ := lookIn_ns hns
      exact ⟨a, _, some o, rfl, ⟨hget, rfl, rfl, ho⟩, fun _ => ⟨d, vs, mA, o, rfl, sr.sub _ _ k1, k2, e7, hns, ho, hr⟩⟩
    · have hv : vs = [] := e6 (fun z => hd (Option.some.inj z))
      subst hv
      have hf : fs = [] := by
        cases fs with
        | nil => rfl
        | cons d ds =>
          obtain ⟨_, _, z, _⟩ := Reps.cons_iff.mp e7
          cases z
      exact absurd (e8 hf) (by intro z; cases z)
theorem lookX {β : Type} {f g : Str} {y : β} {fs : List (Str × β)} : ((f, y) :: fs).lookup g = if g = f then some y else fs.lookup g := by
  by_cases h : g = f
  · subst h
    simp [List.lookup]
  · have e : (g == f) = false := by simpa using h
    rw [if_neg h]
    simp [List.lookup, e]
theorem look_zip {g : G} {F : Hp} {f : Str} {d : D} : ∀ {l : List Str} {ds : List D} {vs : List V}, Reps g F ds vs → (l.zip ds).lookup f = some d → ∃ v, (l.zip vs).lookup f = some v ∧ Rep g F d v
  | [], _, _, _, h => by cases h
  | _ :: _, [], _, _, h => by cases h
  | x :: l, e :: ds, vs, r, h => by
    obtain ⟨v, us, rfl, r1, r2⟩ := Reps.cons_iff.mp r
    rw [List.zip_cons_cons, lookX] at h
    rw [List.zip_cons_cons]
    by_cases q : f = x
    · rw [if_pos q] at h
      cases h
      exact ⟨v, by rw [lookX, if_pos q], r1⟩
    · rw [if_neg q] at h
      obtain ⟨u, h1, h2⟩ := look_zip r2 h
      exact ⟨u, by rw [lookX, if_neg q]; exact h1, h2⟩
/-- the classes with fields: number, fields as they lie -/
abbrev XFl := List (Nat × List Str)
structure XfF (g : G) (xfl : XFl) : Prop where
  fl : ∀ c l, xfl.lookup c = some l → g.fl c = l
  ok : ∀ c l, xfl.lookup c = some l → XfC g.K (g.cad c)
  no : ∀ c l f, xfl.lookup c = some l → f ∈ l → PySem.W.findIn g.K (.ref (g.cad c)) f = some none
def atX (xfl : XFl) (f : Str) (c : Nat) (fs : List D) (μ : Sto) : Option R := match xfl.lookup c with
  | some l => (match fs, (l.zip fs).lookup f with
    | _ :: _, some d => some (.ok (.val d), μ)
    | _, _ => none)
  | none => none
def atXK (xfl : XFl) (f : Str) (old : Option R) : Option R → Option R
  | some (.ok (.val (.exc c fs)), μ) => atX xfl f c fs μ
  | _ => old
/-- o.f, o perhaps what was caught -/
def mAttrX (xfl : XFl) (fls : List (List Str)) (f : Str) (a : ME) : ME := fun ρ μ => atXK xfl f (mAttr fls f a ρ μ) (a ρ μ)
theorem lkp_fst {f : Str} {d : D} : ∀ {l : List Str} {ds : List D}, (l.zip ds).lookup f = some d → f ∈ l
  | [], _, h => by cases h
  | _ :: _, [], h => by cases h
  | x :: l, e :: ds, h => by
    rw [List.zip_cons_cons, lookX] at h
    by_cases q : f = x
    · rw [q]
      exact List.mem_cons_self
    · rw [if_neg q] at h
      exact List.mem_cons_of_mem _ (lkp_fst h)
section
variable {g : G} {X : Cx} {W : WX} {a : Expr} {ma : ME} {pos : Pos} {f : Str} {fls : List (List Str)} {xfl : XFl}
theorem se_attrX (hg : g.K = X.K) (xa : XfF g xfl) (ha : SE g X W a ma) (hs : notCall a = true) (old : SE g X W (.Attribute a f pos) (mAttr fls f ma)) : SE g X W (.Attribute a f pos) (mAttrX xfl fls f ma) := by
  refine ⟨fun F as ρ μ σ H Q r μ' h sr er post => ?_⟩
  have h : atXK xfl f (mAttr fls f ma ρ μ) (ma ρ μ) = some (r, μ') := h
  unfold atXK at h
  split at h
  · rename_i c fs μ1 hm
    unfold atX at h
    split at h
    · rename_i l hl
      split at h
      · rename_i d0 ds d hd
        cases h
        have key : wpE X a σ H fun v H1 => ∃ F' as', Ext F as F' as' ∧ SR g F' as' μ' H1 ∧ Rep g F' (.exc c (d0 :: ds)) v := ha.run F as ρ μ σ H _ _ μ' hm sr er fun F' as' v H' e' r' q => ⟨F', as', e', r', q⟩
        intro pins s I
        refine attr_of (attrBase hs) (thn (key pins s I) fun u s1 hh => ?_)
        obtain ⟨x, H1, I1, rx, F', as', e', sr', rep⟩ := hh
        obtain ⟨b, oe, od, rfl, J, more⟩ := exc_at sr' rep I1
        obtain rfl : u = Value.ref b := rx
        obtain ⟨dx, vs, mA, o, rfl, hx, hlen, rfs, hns, ho, hr⟩ := more (by simp)
        have hfl := xa.fl c l hl
        obtain ⟨v, lv, rv⟩ := look_zip rfs hd
        obtain ⟨od', ho', hlk⟩ := lookIn_ns hns
        rw [ho] at ho'
        cases ho'
        obtain ⟨u, hu, ru⟩ := RelO.some_of (v := v) (o := mA f) (by rw [← lv, ← hfl]; exact hr f)
        have C := xa.ok c l hl
        have no := xa.no c l f hl (lkp_fst hd)
        exact HandSPX.exc_get I1.kIn J (hg ▸ C.ga) (hg ▸ C.gg) (hg ▸ C.exC) (PySem.W.findObj_own (hg ▸ C.hdC) (hg ▸ no) rfl (by rw [hlk, hu])) (handed_of ru) ⟨v, H1, I1.tok _, ru, post F' as' v H1 e' sr' rv⟩
      · cases h
    · cases h
  · exact old.run F as ρ μ σ H Q r μ' h sr er post
end
def bIsiY (sub : Nat → Nat → Option Bool) (ty : Nat → String → Option Bool) (op : List D → Option S) : List D → Option S
  | [.exc c _, .tup (d :: ds)] => (isXs sub ty c (d :: ds)).map fun b => .val (.bl b)
  | [.exc c _, k] => (isX sub ty c k).map fun b => .val (.bl b)
  | xs => op xs
theorem co_isiY {g : G} {X : Cx} {sub : Nat → Nat → Option Bool} {ty : Nat → String → Option Bool} {op : List D → Option S} (hg : g.K = X.K) (xf : ExcF g sub ty) (ho : CallOk g X (.builtin "isinstance") op) : CallOk g X (.builtin "isinstance") (bIsiY sub ty op) := by
  intro xs s F as μ H vs Q e sr hx k
  unfold bIsiY at e
  split at e
  · rename_i c fs d0 ds
    obtain ⟨b, h, rfl⟩ := Option.map_eq_some_iff.mp e
    obtain ⟨v, u, rfl, h1, h2⟩ := vrs2 hx
    intro pins st σ us I r
    obtain ⟨a, oe, od, rfl, J, _⟩ := exc_at sr (vr_rep (fun ds q => by cases q) h1) I
    have C := isXs_some xf h
    obtain ⟨v', u', rfl, rx, rt⟩ := vals2 r
    cases (show v' = .ref a from rx)
    · have h2' : Rep g F (.tup (d0 :: ds)) u := vr_rep (fun ds q => by cases q) h2
      unfold Rep at h2'
      obtain ⟨a2, ws, rfl, s1, r1⟩ := h2'
      cases (show u' = .ref a2 from rt)
      obtain ⟨its, v1, t1, z1⟩ := I.tuple (hg ▸ seqT_mono sr.sub s1)
      obtain ⟨⟨cls, dd, data, sl⟩, ho2, hc2, n, hd2⟩ := id t1
      simp only at hc2 hd2
      subst hc2 hd2
      have kk := isXs_kit xf C h r1 v1
      exact PySem.W.kia_tup (PySem.W.sz_kitx (hg ▸ C.hg) (hg ▸ C.hk) (hg ▸ C.hs) (hg ▸ C.hd) (hg ▸ C.ha) (hg ▸ C.hn) (hg ▸ C.ht) (hg ▸ C.hm)) I.kIn J ho2 (hg ▸ kk) (fun z => nomatch z) fun tk => ⟨.bl b, H, I.kept (t' := tk) fun _ _ z => z, rfl, k F as _ H .refl sr ra_bl⟩
  · rename_i c fs d _
    obtain ⟨b, h, rfl⟩ := Option.map_eq_some_iff.mp e
    obtain ⟨v, u, rfl, h1, h2⟩ := vrs2 hx
    intro pins st σ us I r
    obtain ⟨a, oe, od, rfl, J, _⟩ := exc_at sr (vr_rep (fun ds q => by cases q) h1) I
    obtain ⟨v', u', rfl, rx, rt⟩ := vals2 r
    cases (show v' = .ref a from rx)
    · have h2' : Rep g F d u := vr_rep (fun ds q => by rw [q] at h; cases h) h2
      obtain ⟨C, kk⟩ := isX_kit xf h h2' rt
      exact PySem.W.kia_one (PySem.W.sz_kitx (hg ▸ C.hg) (hg ▸ C.hk) (hg ▸ C.hs) (hg ▸ C.hd) (hg ▸ C.ha) (hg ▸ C.hn) (hg ▸ C.ht) (hg ▸ C.hm)) I.kIn J (hg ▸ kk) (fun z => nomatch z) fun tk => ⟨.bl b, H, I.kept (t' := tk) fun _ _ z => z, rfl, k F as _ H .refl sr ra_bl⟩
  · exact ho _ s F as μ H vs Q e sr hx k
end Sz
set_option Elab.async false
set_option linter.all false
set_option maxRecDepth 100000
set_option maxHeartbeats 4000000
namespace Sz
open PySem PySem.Spec PyProof.Rows L2
def subY (t : XTab) (xi : XIs) (c j : Nat) : Option Bool := if (t.exs.lookup c).isSome || (xi.lookup c).isSome then t.sub.lookup (c, j) else none
def tyY (t : XTab) (xi : XIs) (c : Nat) (T : String) : Option Bool := if (t.exs.lookup c).isSome || (xi.lookup c).isSome then t.ty.lookup (c, T) else none
def xflOf (xi : XIs) : XFl := xi.map fun p => (p.1, p.2.fl.reverse)
theorem lookup_map {α β γ : Type} [BEq α] {f : β → γ} {k : α} : ∀ {l : List (α × β)}, (l.map fun p => (p.1, f p.2)).lookup k = (l.lookup k).map f
  | [] => rfl
  | (x, y) :: l => by
    rw [List.map_cons]
    unfold List.lookup
    cases k == x with
    | true => rfl
    | false => exact lookup_map
section
variable {cls fns : List Str} {fls : List (List Str)} {tb : List (Addr × Str)} {K : PySem.W.Frag} {t : XTab} {xi : XIs}
theorem xi_one (h : xiA cls xi K = true) {c : Nat} {p : XI} (hc : xi.lookup c = some p) : xiB K p = true ∧ (gOf cls fls K fns tb).cad c = He.ga K p.nm := by
  have h1 := List.all_eq_true.mp h (c, p) (lkp_mem hc)
  refine ⟨(He.ba h1).1, ?_⟩
  show He.ga K (cls.getD c "") = _
  rw [beq_iff_eq.mp (He.ba h1).2]
theorem xi_oe {p : XI} (h : xiB K p = true) : OeC K (He.ga K p.nm) p.b := by
  unfold xiB at h
  have r := (He.ba (He.ba h).2).1
  exact ⟨(He.ba (He.ba (He.ba h).1).1).1, (He.ba (He.ba (He.ba h).1).1).2, (He.ba (He.ba (He.ba h).1).2).1, beq_iff_eq.mp (He.ba (He.ba r).1).1, beq_iff_eq.mp (He.ba (He.ba r).1).2, beq_iff_eq.mp (He.ba (He.ba r).2).1, (He.ba (He.ba (He.ba h).1).2).2⟩
theorem xi_bi {p : XI} (h : xiB K p = true) : BiC K (He.ga K p.ob) p.b := by
  unfold xiB at h
  have r := (He.ba (He.ba (He.ba (He.ba h).2).2).2).1
  refine ⟨beq_iff_eq.mp (He.ba (He.ba r).1).1, (He.ba (He.ba r).1).2, ?_⟩
  have q := (He.ba r).2
  split at q
  · rename_i x e
    rw [e, beq_iff_eq.mp q]
  · cases q
theorem xi_no {p : XI} (h : xiB K p = true) {f : Str} (hf : f ∈ p.fl) : PySem.W.findIn K (.ref (He.ga K p.nm)) f = some none := by
  unfold xiB at h
  exact beq_iff_eq.mp (List.all_eq_true.mp (He.ba (He.ba (He.ba (He.ba (He.ba h).2).2).2).2).1 f hf)
theorem xi_tk {p : XI} (h : xiB K p = true) {f : Str} (hf : f ∈ p.fl) : PySem.W.takerIn K (He.ga K p.nm) f = some none := by
  unfold PySem.W.takerIn
  rw [xi_no h hf]
  rfl
theorem xi_ini {p : XI} (h : xiB K p = true) : PySem.W.findIn K (.ref (He.ga K p.nm)) "__init__" = some (some (.ref (He.ma K (He.ga K p.nm) "__init__"))) ∧ PySem.W.typeIn K (.ref (He.ma K (He.ga K p.nm) "__init__")) = some (.type "function") := by
  unfold xiB at h
  have r := (He.ba (He.ba (He.ba (He.ba (He.ba h).2).2).2).2).2
  exact ⟨beq_iff_eq.mp (He.ba r).1, beq_iff_eq.mp (He.ba r).2⟩
theorem xi_ec (hx : xtB cls t K = true) {p : XI} (h : xiB K p = true) : ExcC K (He.ga K p.nm) := by
  unfold xiB at h
  have r := (He.ba (He.ba h).2).1
  have q := (He.ba (He.ba (He.ba h).2).2).1
  have k := (He.ba (He.ba hx).1).1
  exact ⟨beq_iff_eq.mp (He.ba (He.ba q).1).1, beq_iff_eq.mp (He.ba (He.ba q).1).2, beq_iff_eq.mp (He.ba (He.ba r).1).2, (He.ba (He.ba (He.ba h).1).2).1, beq_iff_eq.mp (He.ba q).2, beq_iff_eq.mp (He.ba k).1, beq_iff_eq.mp (He.ba k).2, beq_iff_eq.mp (He.ba (He.ba r).2).2⟩
theorem xi_xf {p : XI} (h : xiB K p = true) : XfC K (He.ga K p.nm) := by
  unfold xiB at h
  have r := (He.ba (He.ba h).2).1
  have q := (He.ba (He.ba (He.ba h).2).2).1
  exact ⟨beq_iff_eq.mp (He.ba (He.ba q).1).1, beq_iff_eq.mp (He.ba (He.ba q).1).2, beq_iff_eq.mp (He.ba (He.ba r).1).2, (He.ba (He.ba (He.ba h).1).2).1⟩
theorem xt_isiY (hx : xtB cls t K = true) (h : xiA cls xi K = true) : ExcF (gOf cls fls K fns tb) (subY t xi) (tyY t xi) := by
  have key : ∀ c, ((t.exs.lookup c).isSome || (xi.lookup c).isSome) = true → ExcC K ((gOf cls fls K fns tb).cad c) := fun c q => by
    rcases Bool.or_eq_true_iff.mp q with q | q
    · exact xt_ec hx q
    · obtain ⟨p, hp⟩ := Option.isSome_iff_exists.mp q
      obtain ⟨h1, h2⟩ := xi_one (fls := fls) (fns := fns) (tb := tb) h hp
      rw [h2]
      exact xi_ec hx h1
  refine ⟨fun c j b e => ?_, fun c T b e => ?_⟩
  · unfold subY at e
    split at e
    · rename_i q
      exact ⟨key c q, beq_iff_eq.mp (List.all_eq_true.mp (He.ba (He.ba (He.ba hx).2).2).1 ((c, j), b) (lkp_mem e))⟩
    · cases e
  · unfold tyY at e
    split at e
    · rename_i q
      exact ⟨key c q, beq_iff_eq.mp (List.all_eq_true.mp (He.ba (He.ba (He.ba hx).2).2).2 ((c, T), b) (lkp_mem e))⟩
    · cases e
theorem xi_xff (h : xiA cls xi K = true) (hf : (xi.all fun p => fls.getD p.1 [] == p.2.fl.reverse) = true) : XfF (gOf cls fls K fns tb) (xflOf xi) := by
  have key : ∀ c l, (xflOf xi).lookup c = some l → ∃ p, xi.lookup c = some p ∧ l = p.fl.reverse := fun c l e => by
    unfold xflOf at e
    rw [lookup_map (f := fun p : XI => p.fl.reverse)] at e
    obtain ⟨p, h1, h2⟩ := Option.map_eq_some_iff.mp e
    exact ⟨p, h1, h2.symm⟩
  refine ⟨fun c l e => ?_, fun c l e => ?_, fun c l f e hm => ?_⟩
  · obtain ⟨p, h1, rfl⟩ := key c l e
    exact beq_iff_eq.mp (List.all_eq_true.mp hf (c, p) (lkp_mem h1))
  · obtain ⟨p, h1, rfl⟩ := key c l e
    obtain ⟨h3, h4⟩ := xi_one (fls := fls) (fns := fns) (tb := tb) h h1
    rw [h4]
    exact xi_xf h3
  · obtain ⟨p, h1, rfl⟩ := key c l e
    obtain ⟨h3, h4⟩ := xi_one (fls := fls) (fns := fns) (tb := tb) h h1
    rw [h4]
    exact xi_no h3 (List.mem_reverse.mp hm)
end
section
variable {P : Program} {w : World} {mg : Str → Option Value} {base : Heap} {cls fns : List Str} {fls : List (List Str)} {tb : List (Addr × Str)} {K : PySem.W.Frag} {xi : XIs}
/-- the promise of a raise -/
theorem xi_exi {c : Nat} {p : XI} {ps N : List Str} {dfl : List D} {sh : List (Nat × List Str)} {x qual : Str} {params : Arguments} {body : List Stmt} {scope : Scope} {np : Nat} (h : xiA cls xi K = true) (hc : xi.lookup c = some p) (hfl : (fls.getD c [] == p.fl.reverse) = true)
    (hF : ∃ fd, FunD K x qual params body scope ((dfl.map dvOf).map (He.Dv.v K)) [] (He.ma K (He.ga K p.nm) "__init__") fd) (hd : dfl.all dvOk = true) (S : FnScope N ps scope) (hl : ps.length = p.fl.length + 1)
    (hb : ∀ X W, xiB K p = true → Ct (gOf cls fls K fns tb) P w mg base 0 N scope true true false X W → IniB X (He.ga K p.nm) p.fl np body)
    (hB : ∀ fd, FunD K x qual params body scope ((dfl.map dvOf).map (He.Dv.v K)) [] (He.ma K (He.ga K p.nm) "__init__") fd → BndAll K fd ps ((dfl.map dvOf).map (He.Dv.v K)) sh) :
    ExI (gOf cls fls K fns tb) P w mg base c p.b p.fl ps dfl 1 sh := by
  obtain ⟨h1, h2⟩ := xi_one (fls := fls) (fns := fns) (tb := tb) h hc
  obtain ⟨fd, F⟩ := hF
  obtain ⟨i1, i2⟩ := xi_ini h1
  refine ⟨by rw [h2]; exact xi_oe h1, beq_iff_eq.mp hfl, hl, _, fd, _, by rw [h2]; exact i1, i2, by rw [h2]; exact fn_ini (g := gOf cls fls K fns tb) (np := np) F S hl fun X W cx => hb X W h1 cx, (hB fd F).get, fun _ => dvs_rep (g := gOf cls fls K fns tb) hd⟩
end
end Sz
set_option Elab.async false
set_option linter.all false
set_option maxRecDepth 100000
set_option maxHeartbeats 4000000
namespace Sz
open PySem PySem.Spec L2
section
variable {c n : Nat} {ps : List Str} {dfl : List D} {ms : List ME} {ρ : En} {μ : Sto} {a b b2 : Str} {d d2 e : D} {xfl : XFl} {fls : List (List Str)} {f : Str} {m : ME} {old : Option R} {fs : List D} {l : List Str}
theorem mAttrX_ap : mAttrX xfl fls f m ρ μ = atXK xfl f (mAttr fls f m ρ μ) (m ρ μ) := Eq.trans rfl rfl
theorem atXK_exc : atXK xfl f old (some (.ok (.val (.exc c fs)), μ)) = atX xfl f c fs μ := Eq.trans rfl rfl
end
end Sz
set_option Elab.async false
set_option linter.all false
set_option maxRecDepth 100000
set_option maxHeartbeats 4000000
namespace Sz
open PySem PySem.Spec PyProof.Rows L2
/-- a plain value -/
def scPy : D → Option PyData
  | .non => some .none
  | .bl b => some (.bool b)
  | .int i => some (.int i)
  | .str s => some (.str s)
  | _ => none
def scPys : List D → Option (List PyData)
  | [] => some []
  | d :: ds => match scPy d, scPys ds with
    | some p, some ps => some (p :: ps)
    | _, _ => none
def kPy : Key → PyData
  | .inl i => .int i
  | .inr s => .str s
def bReprK : List D → Option S
  | [.dic ks ds] => if ds.length = ks.length then (match scPys ds with
    | some ps => shK (some (.dict ((ks.map kPy).zip ps)))
    | none => none) else none
  | xs => bRepr xs
theorem sc_reads {h : Heap} {g : G} {F : Hp} {d : D} {p : PyData} {v : V} {u : Value} (e : scPy d = some p) (r : Rep g F d v) (ru : RelV v u) : Reads h u p [] := by
  cases d <;> unfold scPy at e <;> cases e <;> unfold Rep at r <;> subst r
  · cases (show u = Value.none from ru)
    exact Reads.none
  · rename_i b
    cases (show u = Value.bool b from ru)
    exact Reads.bool b
  · obtain ⟨t, rfl⟩ := ru
    exact Reads.int _ t
  · obtain ⟨t, rfl⟩ := ru
    exact Reads.str _ t
theorem key_reads {h : Heap} {k : Key} {u : Value} (e : keyIs k u = true) : Reads h u (kPy k) [] := by
  rcases keyIs_shape e with ⟨i, t, rfl, rfl⟩ | ⟨x, t, rfl, rfl⟩
  · exact Reads.int i t
  · exact Reads.str x t
theorem dic_reads {g : G} {F : Hp} {P : Program} {w : World} {h : Heap} : ∀ {ks : List Key} {ds : List D} {vs : List V} {us : List (Key × Value)} {es : List DictEntry} {ps : List PyData}, scPys ds = some ps → Reps g F ds vs → ds.length = ks.length → KV (ks.zip vs) us → Pairs (mixKind P w) es us →
    ReadsAll h (es.map (·.key)) (((ks.map kPy).zip ps).map (·.1)) [] ∧ ReadsAll h (es.map (·.val)) (((ks.map kPy).zip ps).map (·.2)) []
  | [], ds, vs, us, es, ps, h1, h2, h3, h4, h5 => by
    cases h4
    cases h5
    exact ⟨ReadsAll.nil, ReadsAll.nil⟩
  | k :: ks, [], vs, us, es, ps, h1, h2, h3, h4, h5 => by cases h3
  | k :: ks, d :: ds, vs, us, es, ps, h1, h2, h3, h4, h5 => by
    unfold scPys at h1
    split at h1
    · rename_i p ps' e1 e2
      cases h1
      obtain ⟨v, r, rfl, r1, r2⟩ := Reps.cons_iff.mp h2
      rw [List.zip_cons_cons] at h4
      cases h4 with
      | cons p1 p2 =>
        cases h5 with
        | cons q1 q2 q3 =>
          obtain ⟨i1, i2⟩ := dic_reads (h := h) e2 r2 (by rw [List.length_cons, List.length_cons] at h3; omega) p2 q3
          obtain ⟨p3, p4⟩ := p1
          refine ⟨?_, ?_⟩
          · have a := ReadsAll.cons (key_reads (h := h) (by rw [← mixKind_is P w]; exact q1)) i1
            have e : k = _ := p3
            subst e
            exact a
          · have a := ReadsAll.cons (sc_reads (h := h) e1 r1 p4) i2
            rw [List.map_cons, q2]
            exact a
    · cases h1
section
variable {g : G} {X : Cx}
theorem co_reprK (hg : g.K = X.K) (gd : X.A.guards = some []) (hu : X.A.units + 200 < cLine) : CallOk g X (.builtin "repr") bReprK := by
  intro xs s F as μ H vs Q e sr hx k
  unfold bReprK at e
  split at e
  · rename_i ks ds
    split at e
    · rename_i hlen
      split at e
      · rename_i ps hps
        unfold shK at e
        dsimp only at e
        split at e
        · rename_i hs
          cases e
          unfold shOk at hs
          simp only [Bool.and_eq_true, decide_eq_true_eq] at hs
          obtain ⟨h1, h2, h3⟩ := hs
          obtain ⟨v, rfl, hv⟩ := vrs1 hx
          have hv : Rep g F (.dic ks ds) v := vr_rep (fun ds q => by cases q) hv
          unfold Rep at hv
          obtain ⟨a, ob, vs', rfl, e1, e2, e3⟩ := hv
          intro pins st σ us I ru
          obtain ⟨u, rfl, r1⟩ := ru.one
          cases (show u = .ref a from r1)
          obtain ⟨_, _, lo, us', rk, o, es, ep, ho, hx', hd, hk, hp, hn⟩ := (show ObjOk X.prog X.w H st.heap a (.frz ob (.dK (ks.zip vs'))) from I.hok a _ (sr.sub _ _ e1))
          obtain ⟨i1, i2⟩ := dic_reads (h := st.heap) hps e3 hlen rk hp
          have rd : Reads st.heap (.ref a) (.dict ((ks.map kPy).zip ps)) (a :: [] ++ []) := Reads.dict ho hx'.1 hd i1 i2
          refine repr_of_reads' rd h1 (fun _ z => ?_) gd (by omega) (fun _ _ q => q) (fun h' t tk hk => ⟨.str _, H, I.kept (t' := tk) fun b o q => hk b o q, ⟨t, rfl⟩, k F as _ H .refl sr ra_str⟩) h3
          rw [List.append_nil, List.mem_singleton] at z
          rw [← z] at lo
          exact absurd lo (by simp)
        · cases e
      · cases e
    · cases e
  · exact co_repr hg gd hu _ s F as μ H vs Q e sr hx k
end
end Sz
set_option Elab.async false
set_option linter.all false
set_option maxRecDepth 100000
set_option maxHeartbeats 4000000
namespace Sz
open PySem PySem.Spec PyProof.Rows L2
end Sz
set_option Elab.async false
set_option linter.all false
set_option maxRecDepth 100000
set_option maxHeartbeats 4000000
namespace L2
open PySem PySem.Spec PyProof.Rows
end L2
namespace Sz
open PySem PySem.Spec PyProof.Rows L2
end Sz
set_option Elab.async false
set_option linter.all false
set_option maxRecDepth 100000
set_option maxHeartbeats 4000000
namespace Sz
open PySem PySem.Spec PyProof.Rows L2
end Sz
set_option Elab.async false
set_option linter.all false
set_option maxRecDepth 100000
set_option maxHeartbeats 4000000
namespace PySem
open Sem (wp)
open Builtin
open Builtin.List
def SzLow (h : Heap) : Nat → Addr → Prop
  | 0, a => ∀ o, h.get? a = some o → o.cls ≠ .type "tuple" ∧ o.cls ≠ .type "list" ∧ o.cls ≠ .type "dict"
  | k + 1, a => (∀ (o : Obj) (its : Array Value) (n : Nat), h.get? a = some o → (o.cls = .type "tuple" ∨ o.cls = .type "list") → o.data = .seq its n → ∀ b, Value.ref b ∈ its.toList → SzLow h k b) ∧
    (∀ (o : Obj) (es : Array DictEntry) (n : Nat), h.get? a = some o → o.cls = .type "dict" → o.data = .dict es n → ∀ e ∈ es.toList, ∀ b, e.val = .ref b → SzLow h k b)
theorem SzLow.up {h : Heap} : ∀ {k : Nat} {a : Addr}, SzLow h k a → SzLow h (k + 1) a
  | 0, a, l => ⟨fun o its n ho hc _ => by
    rcases hc with hc | hc
    · exact absurd hc (l o ho).1
    · exact absurd hc (l o ho).2.1, fun o es n ho hc => absurd hc (l o ho).2.2⟩
  | k + 1, a, l => ⟨fun o its n ho hc hd b hb => SzLow.up (l.1 o its n ho hc hd b hb), fun o es n ho hc hd e he b hb => SzLow.up (l.2 o es n ho hc hd e he b hb)⟩
theorem SzLow.mono {h : Heap} {j k : Nat} {a : Addr} (l : SzLow h j a) (hjk : j ≤ k) : SzLow h k a := by
  induction hjk with
  | refl => exact l
  | step _ ih => exact ih.up
theorem SzLow.least {h : Heap} {a : Addr} : ∀ n, SzLow h n a → ∃ m, m ≤ n ∧ SzLow h m a ∧ ∀ j, j < m → ¬ SzLow h j a
  | 0, l => ⟨0, Nat.le_refl _, l, fun j hj => absurd hj (Nat.not_lt_zero _)⟩
  | n + 1, l => by
    by_cases q : SzLow h n a
    · obtain ⟨m, h1, h2, h3⟩ := SzLow.least n q
      exact ⟨m, by omega, h2, h3⟩
    · exact ⟨n + 1, Nat.le_refl _, l, fun j hj z => q (z.mono (by omega))⟩
def SzCl (h₀ : Heap) (n : Nat) (g : List Code) : Prop := ∀ id v rest kw, Code.builtin id ⟨v :: rest, kw⟩ ∈ g → ∃ a, v = .ref a ∧ ¬ SzLow h₀ n a
theorem SzCl.clear {h₀ : Heap} {n : Nat} {g : List Code} {b : Addr} (c : SzCl h₀ n g) (l : SzLow h₀ n b) : Clear g b := fun id v rest kw hm q => by
  obtain ⟨a, e, hn⟩ := c id v rest kw hm
  rw [e] at q
  injection q with q
  rw [q] at hn
  exact hn l
theorem SzCl.nil {h₀ : Heap} {n : Nat} : SzCl h₀ n [] := fun _ _ _ _ h => nomatch h
theorem SzCl.cons {h₀ : Heap} {n m : Nat} {g : List Code} {a : Addr} {id : String} {rest : List Value} {kw : List (Str × Value)} (c : SzCl h₀ n g) (hm : m ≤ n) (ha : ¬ SzLow h₀ m a) : SzCl h₀ m (.builtin id ⟨.ref a :: rest, kw⟩ :: g) := fun id' v rest' kw' h => by
  rcases List.mem_cons.mp h with e | h
  · cases e
    exact ⟨a, rfl, ha⟩
  · obtain ⟨b, e, hn⟩ := c id' v rest' kw' h
    exact ⟨b, e, fun z => hn (z.mono hm)⟩
section
variable {prog : Program} {w : World} {A : Around} {R : Result → Shared → Prop}
/-- at any list loop of a -/
def SzEl (prog : Program) (w : World) (A : Around) (R : Result → Shared → Prop) (J : Shared → Prop) (a P : Addr) (x : Value) (t : Str) : Prop :=
  ∀ (rest : List Value) (base : Nat), base + t.length ≤ sizeLine → ∀ s, J s → wpAny (model prog w) (A.under (.builtin "list.__repr__.loop" ⟨.ref a :: rest, []⟩)) (pyReprUnder base x) (fun u s' => u = t ∧ J s') (fun e s' => R (.error e) s') s
theorem sz_list_loop {a P : Addr} {ts : List Str} {base : Nat} {JP : Obj → Shared → Prop}
    (hA : ∀ ob s, JP ob s → ∃ (oa : Obj) (items : Array Value) (na : Nat), s.heap.get? a = some oa ∧ oa.data = .seq items na ∧ items.size = ts.length ∧ ∀ (i : Nat) (x : Value), items[i]? = some x → ∃ t, ts[i]? = some t ∧ SzEl prog w A R (JP ob) a P x t)
    (hP : ∀ ob s, JP ob s → s.heap.get? P = some ob)
    (hW : ∀ (acc acc' : Array Value) (c c' : Nat) (s : Shared) (f : Array Value → Array Value) (tk : Nat), JP { cls := .type "list", dict := none, data := .seq acc c, slots := #[] } s → (s.heap.update P (Obj.mapSeq f)).get? P = some { cls := .type "list", dict := none, data := .seq acc' c', slots := #[] } → JP { cls := .type "list", dict := none, data := .seq acc' c', slots := #[] } { s with heap := s.heap.update P (Obj.mapSeq f), toks := tk })
    (hK : ∀ ob s tk, JP ob s → JP ob { s with toks := tk })
    (hsz : base + (listText ts).length ≤ sizeLine) :
    ∀ (k i : Nat) (s : Shared) (acc : Array Value) (c : Nat) (done : List (Str × Tok)), ts.length - i = k → i ≤ ts.length → JP { cls := .type "list", dict := none, data := .seq acc c, slots := #[] } s → acc.toList = strValues done → done.map (·.1) = ts.take i →
    (∀ s' u ob, JP ob s' → R (.ok (.ret (.str (listText ts) u))) s') →
    codeAny (model prog w) A (.builtin "list.__repr__.loop" ⟨[.ref a, rawInt i, .ref P, rawInt ((base + piled (ts.take i) : Nat) : Int)], []⟩) R s := by
  have hX : (listText ts).length = (textFrom 0 "[" ts).length + 1 := by
    show (textFrom 0 "[" ts ++ "]").length = _
    rw [strLen_append]; rfl
  have hL := textFrom_len ts 0 "["
  have hsz1 : ts.length ≤ sizeLine := by
    have h1 := hL.1
    rw [if_neg (Nat.lt_irrefl 0)] at h1
    omega
  have hsz2 : ∀ t ∈ ts, t.length ≤ sizeLine := fun t ht => by
    have h2 := hL.2.1 t ht
    omega
  have hsz3 : (listText ts).length ≤ sizeLine := by omega
  have hp3 := piled_le_listText ts
  intro k
  induction k with
  | zero =>
    intro i s acc c done hk hi hJ hacc hdone hR
    obtain ⟨oa, items, na, ha, hda, hlen, _⟩ := hA _ s hJ
    have hin : i = items.size := by omega
    refine codeAny_builtin F.entry_list_repr_loop ?_
    show wpAny _ _ («list.__repr__.loop» ⟨[.ref a, .int i 0, .ref P, .int ((base + piled (ts.take i) : Nat) : Int) 0], []⟩) _ _ s
    rw [repr_loop_tree]
    refine wpAny_bind (wpAny_listItems ha hda ?_)
    have hnone : items[(i : Int).toNat]? = none := by simp [hin]
    simp only [hnone]
    unfold reprEnd
    refine wpAny_bind (wpAny_listItems (hP _ s hJ) rfl ?_)
    rw [hacc, repr_fold]
    refine wpAny_bind (wpAny_pure ?_)
    have hall : done.map (·.1) = ts := by rw [hdone, hin, hlen, List.take_length]
    rw [hall]
    refine wpAny_bind (wpAny_mkStr (wpAny_pure ?_) hsz3)
    exact hR _ _ _ (hK _ s _ hJ)
  | succ k ih =>
    intro i s acc c done hk hi hJ hacc hdone hR
    obtain ⟨oa, items, na, ha, hda, hlen, hT⟩ := hA _ s hJ
    have hlt : i < items.size := by omega
    obtain ⟨t, ht, hrep⟩ := hT i items[i] (by simp [hlt])
    have hp1 := piled_take_succ ht
    have hp2 := piled_take_le ts (i + 1)
    refine codeAny_builtin F.entry_list_repr_loop ?_
    show wpAny _ _ («list.__repr__.loop» ⟨[.ref a, .int i 0, .ref P, .int ((base + piled (ts.take i) : Nat) : Int) 0], []⟩) _ _ s
    rw [repr_loop_tree]
    refine wpAny_bind (wpAny_listItems ha hda ?_)
    have hsome : items[(i : Int).toNat]? = some items[i] := by simp [hlt]
    simp only [hsome]
    rw [Int.toNat_natCast]
    refine wpAny_bind (wpAny_holding (wpAny_mono (hrep _ (base + piled (ts.take i) + 1) (by omega) s hJ) (fun u s' hu => ?_) fun _ _ z => z))
    obtain ⟨rfl, hJ'⟩ := hu
    refine wpAny_bind (wpAny_mkStr ?_ (hsz2 u (List.mem_of_getElem? ht)))
    refine wpAny_bind ?_
    show wpAny _ _ (updateSeq P _) _ _ _
    have hasz : acc.size ≤ sizeLine := by
      have e1 : acc.toList.length = acc.size := by simp
      have e2 : (strValues done).length = done.length := by simp [strValues]
      have e3 : done.length = (ts.take i).length := by rw [← hdone, List.length_map]
      have e4 : (ts.take i).length ≤ i := by rw [List.length_take]; omega
      rw [hacc] at e1; omega
    have hPs := hP _ s' hJ'
    refine wpAny_updateSeq hPs rfl (wpAny_pure ⟨F.quiet_list_repr_loop _, ?_⟩) hasz
    have e1 : ((i : Int) + 1) = ((i + 1 : Nat) : Int) := by omega
    have e2 : base + piled (ts.take i) + (u.length + 2) = base + piled (ts.take (i + 1)) := by omega
    rw [e1, e2]
    refine ih (i + 1) _ (acc.push (.str u s'.toks)) _ (done ++ [(u, s'.toks)]) (by omega) (by omega) (hW acc _ c _ s' _ _ hJ' (Heap.get?_update_self _ hPs rfl)) (by simp [hacc, strValues]) (by simp [List.take_add_one, ht, hdone]) hR
end
section
variable {prog : Program} {w : World} {A : Around} {E : Value → Shared → Prop}
/-- a list's repr under another one's, by its heads -/
theorem sz_list_under {a : Addr} {ts : List Str} {base : Nat} {g : List Code} {s : Shared} {Q : Str → Shared → Prop} {J : Shared → Prop} {JP : Addr → Obj → Shared → Prop}
    (hty : s.TypeIs (.ref a) "list") (hg : A.guards = some g) (hcl : Clear g a) (hu : A.units < cLine) {oa : Obj} {x : Value} {l : List Value} {na : Nat} (ho : s.heap.get? a = some oa) (hd : oa.data = .seq (x :: l).toArray na)
    (hN : JP s.heap.objs.size { cls := .type "list", dict := none, data := .seq #[] 0, slots := #[] } { s with heap := s.heap.push { cls := .type "list", dict := none, data := .seq #[] 0, slots := #[] } })
    (hB : ∀ P ob s, JP P ob s → J s)
    (hA : ∀ P ob s, JP P ob s → ∃ (oa : Obj) (items : Array Value) (na : Nat), s.heap.get? a = some oa ∧ oa.data = .seq items na ∧ items.size = ts.length ∧ ∀ (i : Nat) (x : Value), items[i]? = some x → ∃ t, ts[i]? = some t ∧ SzEl prog w A (callEnd (fun v s' => (∃ x u, v = .str x u) ∧ ∃ y u, v = .str y u ∧ Q y s') E) (JP P ob) a P x t)
    (hP : ∀ P ob s, JP P ob s → s.heap.get? P = some ob)
    (hW : ∀ (P : Addr) (acc acc' : Array Value) (c c' : Nat) (s : Shared) (f : Array Value → Array Value) (tk : Nat), JP P { cls := .type "list", dict := none, data := .seq acc c, slots := #[] } s → (s.heap.update P (Obj.mapSeq f)).get? P = some { cls := .type "list", dict := none, data := .seq acc' c', slots := #[] } → JP P { cls := .type "list", dict := none, data := .seq acc' c', slots := #[] } { s with heap := s.heap.update P (Obj.mapSeq f), toks := tk })
    (hK : ∀ P ob s tk, JP P ob s → JP P ob { s with toks := tk })
    (hsz : base + (listText ts).length ≤ sizeLine) (hQ : ∀ s', J s' → Q (listText ts) s') : wpAny (model prog w) A (pyReprUnder base (.ref a)) Q E s := by
  refine wpAny_pyReprUnder_ref (by omega) (wpAny_pyReprObjUnder_twin (twin := "list.__repr__.under") (Q := fun v s' => ∃ y u, v = .str y u ∧ Q y s') hty F.slot_list_repr.toG rfl hu ?_)
  refine call_twin_plain F.plain_list_repr_under F.entry_list_repr_under F.check_list_repr_under hty F.slot_list_repr.toG (F.args_list_repr_1 _) ?_
  refine wpAny_list_repr_head (A := A.in1) hg (fun v rest kw hm => listSameRef_of_ne (hcl _ _ _ _ hm)) ho hd ?_
  refine wpAny_bind (m := newList []) (wpAny_newObj_type ?_)
  refine wpAny_pure ⟨F.quiet_list_repr_loop _, ?_⟩
  have e0 : base = base + piled (ts.take 0) := by simp [piled]
  have key := sz_list_loop (prog := prog) (w := w) (A := A) (R := callEnd (fun v s' => (∃ x u, v = .str x u) ∧ ∃ y u, v = .str y u ∧ Q y s') E) (P := s.heap.objs.size) (a := a) (ts := ts) (base := base) (JP := JP s.heap.objs.size) (hA _) (hP _) (hW _) (hK _) hsz ts.length 0 _ #[] 0 [] (by omega) (Nat.zero_le _) hN (by simp [strValues]) (by simp)
    (fun s' u ob hJ => ⟨⟨_, _, rfl⟩, _, _, rfl, hQ s' (hB _ _ _ hJ)⟩)
  rw [← e0] at key
  exact key
/-- a list's repr by itself -/
theorem sz_list_top {a : Addr} {ts : List Str} {g : List Code} {s : Shared} {Q : Str → Shared → Prop} {J : Shared → Prop} {JP : Addr → Obj → Shared → Prop}
    (hty : s.TypeIs (.ref a) "list") (hg : A.guards = some g) (hcl : Clear g a) {oa : Obj} {x : Value} {l : List Value} {na : Nat} (ho : s.heap.get? a = some oa) (hd : oa.data = .seq (x :: l).toArray na)
    (hN : JP s.heap.objs.size { cls := .type "list", dict := none, data := .seq #[] 0, slots := #[] } { s with heap := s.heap.push { cls := .type "list", dict := none, data := .seq #[] 0, slots := #[] } })
    (hB : ∀ P ob s, JP P ob s → J s)
    (hA : ∀ P ob s, JP P ob s → ∃ (oa : Obj) (items : Array Value) (na : Nat), s.heap.get? a = some oa ∧ oa.data = .seq items na ∧ items.size = ts.length ∧ ∀ (i : Nat) (x : Value), items[i]? = some x → ∃ t, ts[i]? = some t ∧ SzEl prog w A (callEnd (fun v s' => ∃ y u, v = .str y u ∧ Q y s') E) (JP P ob) a P x t)
    (hP : ∀ P ob s, JP P ob s → s.heap.get? P = some ob)
    (hW : ∀ (P : Addr) (acc acc' : Array Value) (c c' : Nat) (s : Shared) (f : Array Value → Array Value) (tk : Nat), JP P { cls := .type "list", dict := none, data := .seq acc c, slots := #[] } s → (s.heap.update P (Obj.mapSeq f)).get? P = some { cls := .type "list", dict := none, data := .seq acc' c', slots := #[] } → JP P { cls := .type "list", dict := none, data := .seq acc' c', slots := #[] } { s with heap := s.heap.update P (Obj.mapSeq f), toks := tk })
    (hK : ∀ P ob s tk, JP P ob s → JP P ob { s with toks := tk })
    (hsz : (listText ts).length ≤ sizeLine) (hQ : ∀ s', J s' → Q (listText ts) s') : wpAny (model prog w) A (call (.builtin "list.__repr__") [.ref a]) (fun v s' => ∃ y u, v = .str y u ∧ Q y s') E s := by
  refine wpAny_call (codeAny_call_builtin F.slot_list_repr.plain F.entry_list_repr (F.slot_list_repr.check _ _ _ _ _ _ _ _ hty (F.args_list_repr_1 _) ?_))
  show wpAny _ _ (Builtin.listReprAt 0 ⟨[.ref a], []⟩) _ _ _
  refine wpAny_list_repr_head (A := A.in1) hg (fun v rest kw hm => listSameRef_of_ne (hcl _ _ _ _ hm)) ho hd ?_
  refine wpAny_bind (m := newList []) (wpAny_newObj_type ?_)
  refine wpAny_pure ⟨F.quiet_list_repr_loop _, ?_⟩
  have e0 : 0 = 0 + piled (ts.take 0) := by simp [piled]
  have key := sz_list_loop (prog := prog) (w := w) (A := A) (R := callEnd (fun v s' => ∃ y u, v = .str y u ∧ Q y s') E) (P := s.heap.objs.size) (a := a) (ts := ts) (base := 0) (JP := JP s.heap.objs.size) (hA _) (hP _) (hW _) (hK _) (by omega) ts.length 0 _ #[] 0 [] (by omega) (Nat.zero_le _) hN (by simp [strValues]) (by simp)
    (fun s' u ob hJ => ⟨_, _, rfl, hQ s' (hB _ _ _ hJ)⟩)
  rw [← e0] at key
  exact key
theorem sz_list_empty {a : Addr} {base : Nat} {s : Shared} {Q : Str → Shared → Prop} {oa : Obj} {na : Nat} (ha : s.heap.get? a = some oa) (hc : oa.cls = .type "list") (hda : oa.data = .seq #[] na) (hu : A.units < cLine) (hb : base + ("[]" : Str).length ≤ sizeLine) (hQ : ∀ t, Q "[]" { s with toks := t }) : wpAny (model prog w) A (pyReprUnder base (.ref a)) Q E s :=
  wpAny_pyReprUnder_ref (by omega) (wpAny_pyReprObjUnder_list_empty ⟨oa, ha, hc⟩ hu ha hda ⟨_, _, rfl, hQ _⟩)
end
section
variable {prog : Program} {w : World} {A : Around}
/-- a dict's repr by what holds between its things; the dict itself stands still -/
theorem sz_dict_own {a : Addr} {o : Obj} {es : Array DictEntry} {n : Nat} {ps : List Str} {g : List Code} {s : Shared} {R : Result → Shared → Prop} {J : Shared → Prop} {base : Nat} {id : String} {rest : List Value}
    (hc : o.cls = .type "dict") (hd : o.data = .dict es n) (hsys : (a == sysModules) = false) (hlen : ps.length = es.size)
    (hA : ∀ s, J s → s.heap.get? a = some o) (hK : ∀ s tk, J s → J { s with toks := tk })
    (hE : ∀ (i : Nat) (e : DictEntry), es[i]? = some e → ∃ k v : Str, ps[i]? = some (k ++ ": " ++ v) ∧
      (∀ b, b + k.length ≤ sizeLine → ∀ s, J s → wpAny (model prog w) (A.under (.builtin id ⟨.ref a :: rest, []⟩)) (pyReprUnder b e.key) (fun u s' => u = k ∧ J s') (fun e s' => R (.error e) s') s) ∧
      (∀ b, b + v.length ≤ sizeLine → ∀ s, J s → wpAny (model prog w) (A.under (.builtin id ⟨.ref a :: rest, []⟩)) (pyReprUnder b e.val) (fun u s' => u = v ∧ J s') (fun e s' => R (.error e) s') s))
    (hg : A.guards = some g) (hca : Clear g a) (hJ : J s) (hR : ∀ s' u, J s' → R (.ok (.ret (.str (dictText ps) u))) s') (hsz : base + (dictText ps).length ≤ sizeLine) :
    wpOwn (model prog w) A (.builtin id ⟨.ref a :: rest, []⟩) (Builtin.dictReprAt base ⟨[.ref a], []⟩) (fun fin s' => match fin with | .done f => R (.ok f) s' | .again c' => c'.quiet = true ∧ codeAny (model prog w) A c' R s') (fun e s' => R (.error e) s') s := by
  have hTy : s.TypeIs (.ref a) "dict" := ⟨o, hA _ hJ, hc⟩
  have hp3 := piled_le_dictText ps
  have hsz0 : (dictText ps).length ≤ sizeLine := by omega
  unfold Builtin.dictReprAt
  refine wpOwn_bind (wpOwn_of_wpAny ?_)
  unfold Builtin.Dict.dictSlotNone
  refine wpAny_bind (wpAny_notOrdered_dict hTy ?_)
  show wpAny _ _ (pure (Value.ref a)) _ _ s
  refine wpAny_pure ?_
  rw [dictReprRunning_eq]
  refine wpOwn_bind (wpOwn_stackTailAny hg (dictGuardF_off _) (dictGuardF_pos _) ?_)
  have hn : (g.any fun c => dictGuardF (.ref a) (c, default)) = false := by
    rw [List.any_eq_false]
    intro c hcm
    rw [dictGuardF_of_clear hca c hcm]
    exact Bool.false_ne_true
  rw [hn]
  refine wpOwn_of_wpAny ?_
  show wpAny _ _ (Builtin.Dict.addrOf (.ref a) >>= _) _ _ s
  refine wpAny_bind (wpAny_pure ?_)
  show wpAny _ _ (Builtin.Dict.showsAll a >>= _) _ _ s
  unfold Builtin.Dict.showsAll
  rw [if_neg (by rw [hsys]; exact Bool.false_ne_true)]
  refine wpAny_bind (wpAny_pure ?_)
  refine wpAny_bind (wpAny_dictEpoch (hA _ hJ) hd ?_)
  refine wpAny_bind (wpAny_dictEntries (hA _ hJ) hd ?_)
  refine wpAny_bind ?_
  rw [Std.Legacy.Range.forIn_eq_forIn_range']
  simp only [Std.Legacy.Range.size, Nat.sub_zero, Nat.add_sub_cancel, Nat.div_one]
  refine wpAny_forIn_list _
    (fun rest' r s' => ∃ i, rest' = List.range' i (es.size - i) ∧ i ≤ es.size ∧ r = (⟨(ps.take i).toArray, base + piled (ps.take i)⟩ : (Array Str × Nat)) ∧ J s')
    _ ?_ ?_ _ _ ⟨0, by simp, Nat.zero_le _, by simp [piled], hJ⟩
  · rintro x rest' _ s' ⟨i, hr, hi, rfl, hJ'⟩
    have hlt : i < es.size := by
      rcases Nat.lt_or_ge i es.size with h | h
      · exact h
      · rw [Nat.sub_eq_zero_of_le h] at hr; simp at hr
    obtain ⟨rfl, hrest⟩ : x = i ∧ rest' = List.range' (i + 1) (es.size - (i + 1)) := by
      have e : es.size - i = (es.size - (i + 1)) + 1 := by omega
      rw [e, List.range'_succ] at hr
      injection hr with h1 h2
      exact ⟨h1, h2⟩
    obtain ⟨k, v, hp, rk, rv⟩ := hE x es[x] (by simp [hlt])
    have hpl : (k ++ ": " ++ v).length = k.length + 2 + v.length := by
      rw [strLen_append, strLen_append]; rfl
    have hp1 := piled_take_succ hp
    have hp2 := piled_take_le ps (x + 1)
    rw [hpl] at hp1
    refine wpAny_bind (wpAny_dictEntries (hA _ hJ') hd ?_)
    rw [Array.getElem?_eq_getElem hlt]
    refine wpAny_bind (wpAny_holding (wpAny_bind (wpAny_mono (rk (base + piled (ps.take x) + 1) (by omega) _ hJ') (fun u s1 hu => ?_) fun _ _ z => z)))
    obtain ⟨rfl, hJ1⟩ := hu
    refine wpAny_bind (wpAny_mono (rv (base + piled (ps.take x) + (u.length + 3)) (by omega) _ hJ1) (fun u2 s2 hu => ?_) fun _ _ z => z)
    obtain ⟨rfl, hJ2⟩ := hu
    refine wpAny_pure ?_
    refine wpAny_bind (wpAny_dictEpoch (hA _ hJ2) hd ?_)
    rw [if_neg (by simp)]
    have e1 : (ps.take x).toArray.push (u ++ ": " ++ u2) = (ps.take (x + 1)).toArray := by
      rw [List.take_add_one, hp]
      simp
    have e2 : base + piled (ps.take x) + (u.length + u2.length + 4) = base + piled (ps.take (x + 1)) := by omega
    refine wpAny_pure ⟨x + 1, hrest, hlt, ?_, hJ2⟩
    rw [e1, e2]
  · rintro _ s' ⟨i, hr, hi, rfl, hJ'⟩
    have hin : i = es.size := by
      rcases Nat.lt_or_ge i es.size with h | h
      · have e : es.size - i = (es.size - (i + 1)) + 1 := by omega
        rw [e, List.range'_succ] at hr; exact nomatch hr
      · exact Nat.le_antisymm hi h
    rw [hin, ← hlen, List.take_length]
    refine wpAny_bind (wpAny_mkStr (wpAny_pure ?_) (by simpa [dictText] using hsz0))
    have h1 := hR { s' with toks := s'.toks + 1 } s'.toks (hK _ _ hJ')
    simpa [dictText] using h1
/-- a dict's repr under another thing's -/
theorem sz_dict_under {E : Value → Shared → Prop} {a : Addr} {o : Obj} {es : Array DictEntry} {n : Nat} {ps : List Str} {g : List Code} {s : Shared} {Q : Str → Shared → Prop} {J : Shared → Prop} {base : Nat}
    (hc : o.cls = .type "dict") (hd : o.data = .dict es n) (hsys : (a == sysModules) = false) (hlen : ps.length = es.size)
    (hA : ∀ s, J s → s.heap.get? a = some o) (hK : ∀ s tk, J s → J { s with toks := tk })
    (hE : ∀ (i : Nat) (e : DictEntry), es[i]? = some e → ∃ k v : Str, ps[i]? = some (k ++ ": " ++ v) ∧
      (∀ b, b + k.length ≤ sizeLine → ∀ s, J s → wpAny (model prog w) (A.under (.builtin "dict.__repr__.under" ⟨[.ref a, rawInt base], []⟩)) (pyReprUnder b e.key) (fun u s' => u = k ∧ J s') E s) ∧
      (∀ b, b + v.length ≤ sizeLine → ∀ s, J s → wpAny (model prog w) (A.under (.builtin "dict.__repr__.under" ⟨[.ref a, rawInt base], []⟩)) (pyReprUnder b e.val) (fun u s' => u = v ∧ J s') E s))
    (hg : A.guards = some g) (hca : Clear g a) (hu : A.units < cLine) (hJ : J s) (hQ : ∀ s', J s' → Q (dictText ps) s') (hsz : base + (dictText ps).length ≤ sizeLine) : wpAny (model prog w) A (pyReprUnder base (.ref a)) Q E s := by
  refine wpAny_pyReprUnder_ref (by omega) (wpAny_pyReprObjUnder_twin (twin := "dict.__repr__.under") (Q := fun v s' => ∃ y u, v = .str y u ∧ Q y s') ⟨o, hA _ hJ, hc⟩ F.slot_dict_repr rfl hu ?_)
  refine call_twin_own (F.quiet_dict_repr_under _) F.entry_dict_repr_under F.check_dict_repr_under ⟨o, hA _ hJ, hc⟩ F.slot_dict_repr (F.args_dict_repr_1 _) ?_
  exact sz_dict_own (R := callEnd (fun v s' => (∃ x u, v = .str x u) ∧ ∃ y u, v = .str y u ∧ Q y s') E) hc hd hsys hlen hA hK hE hg hca hJ (fun s' u hj => ⟨⟨_, _, rfl⟩, _, _, rfl, hQ s' hj⟩) hsz
/-- a dict's repr by itself -/
theorem sz_dict_top {E : Value → Shared → Prop} {a : Addr} {o : Obj} {es : Array DictEntry} {n : Nat} {ps : List Str} {g : List Code} {s : Shared} {Q : Value → Shared → Prop} {J : Shared → Prop}
    (hc : o.cls = .type "dict") (hd : o.data = .dict es n) (hsys : (a == sysModules) = false) (hlen : ps.length = es.size)
    (hA : ∀ s, J s → s.heap.get? a = some o) (hK : ∀ s tk, J s → J { s with toks := tk })
    (hE : ∀ (i : Nat) (e : DictEntry), es[i]? = some e → ∃ k v : Str, ps[i]? = some (k ++ ": " ++ v) ∧
      (∀ b, b + k.length ≤ sizeLine → ∀ s, J s → wpAny (model prog w) (A.under (.builtin "dict.__repr__" ⟨[.ref a], []⟩)) (pyReprUnder b e.key) (fun u s' => u = k ∧ J s') E s) ∧
      (∀ b, b + v.length ≤ sizeLine → ∀ s, J s → wpAny (model prog w) (A.under (.builtin "dict.__repr__" ⟨[.ref a], []⟩)) (pyReprUnder b e.val) (fun u s' => u = v ∧ J s') E s))
    (hg : A.guards = some g) (hca : Clear g a) (hJ : J s) (hQ : ∀ s' u, J s' → Q (.str (dictText ps) u) s') (hsz : (dictText ps).length ≤ sizeLine) : wpAny (model prog w) A (call (.builtin "dict.__repr__") [.ref a]) Q E s :=
  wpAny_call (codeAny_call_builtin_own (Code.quiet_builtin _ (by decide +kernel)) F.entry_dict_repr (F.slot_dict_repr.check _ _ _ _ _ _ _ _ ⟨o, hA _ hJ, hc⟩ (F.args_dict_repr_1 _)
    (sz_dict_own (base := 0) (R := callEnd Q E) hc hd hsys hlen hA hK hE hg hca hJ hQ (by omega))))
end
end PySem
namespace Sz
open PySem PySem.Spec PyProof.Rows L2
section
variable {prog : Program} {w : World} {A : Around} {E : Value → Shared → Prop}
/-- a tuple's repr under another thing's -/
theorem sz_tuple_under {a : Addr} {items : Array Value} {ts : List Str} {base : Nat} {g : List Code} {s : Shared} {Q : Str → Shared → Prop} {J : Shared → Prop} (ht : IsTup s.heap a items) (hg : A.guards = some g) (hcl : Clear g a) (hu : A.units < cLine) (hJ : J s)
    (hT : ElJ prog w (A.under (.builtin "tuple.__repr__.under" ⟨[.ref a, rawInt base], []⟩)) E J items.toList ts) (hsz : base + (tupleText ts).length ≤ sizeLine)
    (hQ : ∀ s' tk, J s' → Q (tupleText ts) { s' with toks := tk }) : wpAny (model prog w) A (pyReprUnder base (.ref a)) Q E s := by
  obtain ⟨o, ho, hc, n, hd⟩ := ht
  have hlen : ts.length = items.size := by simpa using hT.length
  have hp := piled_le_tupleText ts
  have hsz0 : (tupleText ts).length ≤ sizeLine := by omega
  refine wpAny_pyReprUnder_ref (by omega) (wpAny_pyReprObjUnder_twin (twin := "tuple.__repr__.under") (Q := fun v s' => ∃ y u, v = .str y u ∧ Q y s') ⟨o, ho, hc⟩ F.slot_tuple_repr rfl hu ?_)
  refine call_twin_own (F.quiet_tuple_repr_under _) F.entry_tuple_repr_under F.check_tuple_repr_under ⟨o, ho, hc⟩ F.slot_tuple_repr (F.args_tuple_repr_1 _) ?_
  rw [tuple_repr_tree, tupleReprUnderWay_eq]
  refine wpOwn_bind (wpOwn_stackTailAny hg (tupGuardF_off _) (tupGuardF_pos _) ?_)
  have hn : (g.any fun c => tupGuardF (.ref a) (c, default)) = false := by
    rw [List.any_eq_false]
    intro c hcm
    rw [tupGuardF_of_clear hcl c hcm]
    exact Bool.false_ne_true
  rw [hn]
  refine wpOwn_of_wpAny ?_
  show wpAny _ _ (tupleReprRest base (.ref a)) _ _ s
  unfold tupleReprRest Builtin.Tuple.tupleItemsOf
  refine wpAny_bind (wpAny_bind (wpAny_seqItems ho hd (wpAny_pure ?_)))
  rw [← Array.forIn_toList]
  refine wpAny_bind (tupFoldJ hT _ _ _ _ (by omega) hJ fun s' hj => ?_)
  refine wpAny_bind (wpAny_mkStr (wpAny_pure ?_) (by simpa [tupleText, hlen] using hsz0))
  have h1 := hQ s' (s'.toks + 1) hj
  refine ⟨⟨_, _, rfl⟩, _, _, rfl, ?_⟩
  simpa [tupleText, hlen] using h1
end
mutual
/-- how deep a thing is -/
def depthN : D → Nat
  | .tup ds => depthNs ds + 1
  | .lst ds => depthNs ds + 1
  | .dic _ ds => depthNs ds + 1
  | _ => 0
def depthNs : List D → Nat
  | [] => 0
  | d :: ds => max (depthN d) (depthNs ds)
end
def keyT : Key → Option Str
  | .inl i => if i.natAbs.log2 < 1920 then some (Str.ofString (toString i)) else none
  | .inr y => if (reprText y).length ≤ sizeLine then some (reprText y) else none
def keyTs : List Key → Option (List Str)
  | [] => some []
  | k :: ks => match keyT k, keyTs ks with
    | some t, some ts => some (t :: ts)
    | _, _ => none
def zipT : List Str → List Str → List Str
  | k :: ks, v :: vs => (k ++ ": " ++ v) :: zipT ks vs
  | _, _ => []
def dicT : Option (List Str) → Option (List Str) → Option Str
  | some ks, some vs => some (dictText (zipT ks vs))
  | _, _ => none
mutual
noncomputable def textN (sm : Nat → Option FnI) : D → Option Str
  | .tup ds => (textNs sm ds).map tupleText
  | .lst ds => (textNs sm ds).map listText
  | .dic ks ds => dicT (keyTs ks) (textNs sm ds)
  | d => textO sm d
noncomputable def textNs (sm : Nat → Option FnI) : List D → Option (List Str)
  | [] => some []
  | d :: ds => match textN sm d, textNs sm ds with
    | some t, some ts => some (t :: ts)
    | _, _ => none
end
section
variable {g : G} {P : Program} {w : World} {mg : Str → Option Value} {base : Heap} {k : Nat} {N : List Str} {sc : Scope} {own cm gb gc : Bool} {X : Cx} {W : WX}
theorem JR.kept {pins : List (Addr × Obj)} {σ : L2.St} {F : Hp} {as : List Addr} {μ : Sto} {s : Shared} {h' : Heap} {tk : Nat} (h : JR g X pins σ F as μ s) (q : ∀ b o, s.heap.get? b = some o → h'.get? b = some o) : JR g X pins σ F as μ { s with heap := h', toks := tk } := by
  obtain ⟨F', as', H', x, sr, I⟩ := h
  exact ⟨F', as', H', x, sr, I.kept q⟩
/-- with a pinned list P of ours -/
def JQ (g : G) (X : Cx) (pins : List (Addr × Obj)) (σ : L2.St) (F : Hp) (as : List Addr) (μ : Sto) (Pa : Addr) (ob : Obj) (s : Shared) : Prop :=
  JR g X (pins ++ [(Pa, ob)]) σ F as μ s ∧ X.s_0.heap.objs.size ≤ Pa ∧ (∀ x c, X.env.cells.lookup x = some c → c ≠ Pa) ∧ ∀ p ∈ X.pn ++ pins, p.1 ≠ Pa
theorem inv_drop {pins more : List (Addr × Obj)} {σ : L2.St} {H : Hp} {s : Shared} (I : Inv X (pins ++ more) σ H s) : Inv X pins σ H s :=
  I.pins_of fun p hp => I.pin p (List.mem_append_right _ (List.mem_append_left _ hp))
theorem JQ.drop {pins : List (Addr × Obj)} {σ : L2.St} {F : Hp} {as : List Addr} {μ : Sto} {Pa : Addr} {ob : Obj} {s : Shared} (h : JQ g X pins σ F as μ Pa ob s) : JR g X pins σ F as μ s := by
  obtain ⟨⟨F', as', H', x, sr, I⟩, _⟩ := h
  exact ⟨F', as', H', x, sr, inv_drop I⟩
theorem JQ.at_ {pins : List (Addr × Obj)} {σ : L2.St} {F : Hp} {as : List Addr} {μ : Sto} {Pa : Addr} {ob : Obj} {s : Shared} (h : JQ g X pins σ F as μ Pa ob s) : s.heap.get? Pa = some ob := by
  obtain ⟨⟨F', as', H', x, sr, I⟩, _⟩ := h
  exact (I.pin (Pa, ob) (List.mem_append_right _ (List.mem_append_right _ (List.mem_singleton.mpr rfl)))).1
theorem JQ.new {pins : List (Addr × Obj)} {σ : L2.St} {F : Hp} {as : List Addr} {μ : Sto} {s : Shared} {ob : Obj} (h : JR g X pins σ F as μ s) (hc : ∀ v, ob.data ≠ .cell v) (hf : ob.isFreed = false) : JQ g X pins σ F as μ s.heap.objs.size ob { s with heap := s.heap.push ob } := by
  obtain ⟨F', as', H', x, sr, I⟩ := h
  obtain ⟨f1, f2, f3, f4, f5, f6⟩ := I.fpOk (H' := H') (Nat.le_refl _) (I.hok.fresh (Nat.le_refl _))
  have I2 : Inv X pins σ H' { s with heap := s.heap.push ob } := I.kept (h' := s.heap.push ob) (t' := s.toks) fun b o q => Heap.get?_push_of_some _ q
  refine ⟨⟨F', as', H', x, sr, I2.pins_of fun p hp => ?_⟩, I.sz, f5, f6⟩
  rcases List.mem_append.mp hp with hp | hp
  · exact I2.pin p (List.mem_append_right _ hp)
  · rw [List.mem_singleton.mp hp]
    exact ⟨Heap.get?_push_size _ hf, f1, f2, f3, hc⟩
theorem JQ.tok {pins : List (Addr × Obj)} {σ : L2.St} {F : Hp} {as : List Addr} {μ : Sto} {Pa : Addr} {ob : Obj} {s : Shared} (h : JQ g X pins σ F as μ Pa ob s) (tk : Nat) : JQ g X pins σ F as μ Pa ob { s with toks := tk } := ⟨h.1.tok tk, h.2⟩
theorem JQ.write {pins : List (Addr × Obj)} {σ : L2.St} {F : Hp} {as : List Addr} {μ : Sto} {Pa : Addr} {ob ob' : Obj} {s : Shared} {f : Obj → Obj} (h : JQ g X pins σ F as μ Pa ob s) (tk : Nat) (hget : (s.heap.update Pa f).get? Pa = some ob') (hc : ∀ v, ob'.data ≠ .cell v) : JQ g X pins σ F as μ Pa ob' { s with heap := s.heap.update Pa f, toks := tk } := by
  obtain ⟨⟨F', as', H', x, sr, I⟩, h1, h2, h3⟩ := h
  obtain ⟨p1, p2, p3, p4, p5⟩ := I.pin (Pa, ob) (List.mem_append_right _ (List.mem_append_right _ (List.mem_singleton.mpr rfl)))
  have I2 := (inv_drop I).turned (h' := s.heap.update Pa f) (t' := tk) (fun b o hb q => (Heap.get?_update_other _ _ (Ne.symm hb)).trans q) p2 p3 (.inr h1) h2 h3
  refine ⟨⟨F', as', H', x, sr, I2.pins_of fun p hp => ?_⟩, h1, h2, h3⟩
  rcases List.mem_append.mp hp with hp | hp
  · exact I2.pin p (List.mem_append_right _ hp)
  · rw [List.mem_singleton.mp hp]
    exact ⟨hget, p2, p3, p4, hc⟩
theorem Room.under1 {r : Nat} {A : Around} {c : Code} (h : Room (r + 1) A) (hw : c.weight ≤ 1) (hu : c.cUnits ≤ 1) : Room r (A.under c) := by
  refine ⟨h.hd, ?_, ?_⟩
  · have := h.dp
    show A.depth + c.weight + 3 * r + 5 < _
    omega
  · have := h.un
    show A.units + c.cUnits + 16 * r + 200 < _
    omega
theorem vals_ref : ∀ {vs : List V} {us us' : List Value} {b : Addr}, Vals vs us → Vals vs us' → Value.ref b ∈ us → Value.ref b ∈ us'
  | _, _, _, _, .nil, _, h => nomatch h
  | _, _, _, _, .cons r1 r2, .cons q1 q2, h => by
    rcases List.mem_cons.mp h with e | h
    · rename_i v _ u _ u' _
      subst e
      cases v with
      | ref c =>
        cases (show Value.ref _ = Value.ref c from r1)
        cases (show u' = Value.ref _ from q1)
        exact List.mem_cons_self
      | int _ => obtain ⟨t, z⟩ := (show ∃ t, Value.ref _ = Value.int _ t from r1); cases z
      | str _ => obtain ⟨t, z⟩ := (show ∃ t, Value.ref _ = Value.str _ t from r1); cases z
      | byt _ => obtain ⟨t, z⟩ := (show ∃ t, Value.ref _ = Value.bytes _ t from r1); cases z
      | flt _ => obtain ⟨t, z⟩ := (show ∃ t, Value.ref _ = Value.float _ t from r1); cases z
      | non => cases (show Value.ref _ = Value.none from r1)
      | bl _ => cases (show Value.ref _ = Value.bool _ from r1)
      | ty _ => cases (show Value.ref _ = Value.type _ from r1)
    · exact List.mem_cons_of_mem _ (vals_ref r2 q2 h)
/-- what a place of the walk must bear -/
structure AtA (X : Cx) (r : Nat) (A : Around) : Prop where
  room : Room r A
  fr : A.frames = X.A.frames
theorem AtA.mono {r r' : Nat} {A : Around} (h : AtA X r A) (e : r' ≤ r) : AtA X r' A := ⟨h.room.mono e, h.fr⟩
theorem w_tup (b : Value) (a : Addr) : (Code.builtin "tuple.__repr__.under" ⟨[.ref a, b], []⟩).weight ≤ 1 ∧ (Code.builtin "tuple.__repr__.under" ⟨[.ref a, b], []⟩).cUnits ≤ 1 := by
  constructor
  · first | (simp [Code.weight, Code.frames, Code.isCreation, Code.isGuard, Code.isCaller, guardIds]; rfl) | exact Nat.le_refl _
  · first | exact Nat.le_refl _ | (simp [Code.cUnits, Code.frames])
theorem w_lst (rest : List Value) (a : Addr) : (Code.builtin "list.__repr__.loop" ⟨.ref a :: rest, []⟩).weight ≤ 1 ∧ (Code.builtin "list.__repr__.loop" ⟨.ref a :: rest, []⟩).cUnits ≤ 1 := by
  constructor
  · first | (simp [Code.weight, Code.frames, Code.isCreation, Code.isGuard, Code.isCaller, guardIds]; rfl) | exact Nat.le_refl _
  · first | exact Nat.le_refl _ | (simp [Code.cUnits, Code.frames])
theorem AtA.tup {r : Nat} {A : Around} (h : AtA X (r + 1) A) (a : Addr) (b : Value) : AtA X r (A.under (.builtin "tuple.__repr__.under" ⟨[.ref a, b], []⟩)) := ⟨Room.under1 h.room (w_tup b a).1 (w_tup b a).2, by
  have := h.fr
  first | exact this | (simpa [Around.under, Code.envs, Code.isFrame, pushEnvs] using this)⟩
theorem w_dic (rest : List Value) (a : Addr) (b : Value) : (Code.builtin "dict.__repr__.under" ⟨[.ref a, b], []⟩).weight ≤ 1 ∧ (Code.builtin "dict.__repr__.under" ⟨[.ref a, b], []⟩).cUnits ≤ 1 := by
  constructor
  · first | (simp [Code.weight, Code.frames, Code.isCreation, Code.isGuard, Code.isCaller, guardIds]; rfl) | exact Nat.le_refl _
  · first | exact Nat.le_refl _ | (simp [Code.cUnits, Code.frames])
theorem w_dic1 (a : Addr) : (Code.builtin "dict.__repr__" ⟨[.ref a], []⟩).weight ≤ 1 ∧ (Code.builtin "dict.__repr__" ⟨[.ref a], []⟩).cUnits ≤ 1 := by
  constructor
  · first | (simp [Code.weight, Code.frames, Code.isCreation, Code.isGuard, Code.isCaller, guardIds]; rfl) | exact Nat.le_refl _
  · first | exact Nat.le_refl _ | (simp [Code.cUnits, Code.frames])
theorem AtA.dic {r : Nat} {A : Around} (h : AtA X (r + 1) A) (a : Addr) (b : Value) : AtA X r (A.under (.builtin "dict.__repr__.under" ⟨[.ref a, b], []⟩)) := ⟨Room.under1 h.room (w_dic [] a b).1 (w_dic [] a b).2, by
  have := h.fr
  first | exact this | (simpa [Around.under, Code.envs, Code.isFrame, pushEnvs] using this)⟩
theorem AtA.dic1 {r : Nat} {A : Around} (h : AtA X (r + 1) A) (a : Addr) : AtA X r (A.under (.builtin "dict.__repr__" ⟨[.ref a], []⟩)) := ⟨Room.under1 h.room (w_dic1 a).1 (w_dic1 a).2, by
  have := h.fr
  first | exact this | (simpa [Around.under, Code.envs, Code.isFrame, pushEnvs] using this)⟩
theorem AtA.lst {r : Nat} {A : Around} (h : AtA X (r + 1) A) (a : Addr) (rest : List Value) : AtA X r (A.under (.builtin "list.__repr__.loop" ⟨.ref a :: rest, []⟩)) := ⟨Room.under1 h.room (w_lst rest a).1 (w_lst rest a).2, by
  have := h.fr
  first | exact this | (simpa [Around.under, Code.envs, Code.isFrame, pushEnvs] using this)⟩
theorem textN_tup {sm : Nat → Option FnI} {ds : List D} {t : Str} (h : textN sm (.tup ds) = some t) : ∃ ts, textNs sm ds = some ts ∧ t = tupleText ts := by
  have h : (textNs sm ds).map tupleText = some t := by rw [← h, textN]
  obtain ⟨ts, e1, e2⟩ := Option.map_eq_some_iff.mp h
  exact ⟨ts, e1, e2.symm⟩
theorem textN_lst {sm : Nat → Option FnI} {ds : List D} {t : Str} (h : textN sm (.lst ds) = some t) : ∃ ts, textNs sm ds = some ts ∧ t = listText ts := by
  have h : (textNs sm ds).map listText = some t := by rw [← h, textN]
  obtain ⟨ts, e1, e2⟩ := Option.map_eq_some_iff.mp h
  exact ⟨ts, e1, e2.symm⟩
theorem textNs_cons {sm : Nat → Option FnI} {d : D} {ds : List D} {ts : List Str} (h : textNs sm (d :: ds) = some ts) : ∃ t ts', textN sm d = some t ∧ textNs sm ds = some ts' ∧ ts = t :: ts' := by
  unfold textNs at h
  split at h
  · rename_i t ts' h1 h2
    cases h
    exact ⟨t, ts', h1, h2, rfl⟩
  · cases h
theorem textNs_len {sm : Nat → Option FnI} : ∀ {ds : List D} {ts : List Str}, textNs sm ds = some ts → ts.length = ds.length
  | [], ts, h => by unfold textNs at h; cases h; rfl
  | d :: ds, ts, h => by
    obtain ⟨t, ts', h1, h2, rfl⟩ := textNs_cons h
    rw [List.length_cons, List.length_cons, textNs_len h2]
theorem textNs_get {sm : Nat → Option FnI} {g : G} {F : Hp} : ∀ {ds : List D} {ts : List Str} {vs : List V} {its : List Value} {i : Nat} {x : Value}, textNs sm ds = some ts → Reps g F ds vs → Vals vs its → its[i]? = some x → ∃ d t v, d ∈ ds ∧ ts[i]? = some t ∧ textN sm d = some t ∧ Rep g F d v ∧ RelV v x
  | [], ts, vs, its, i, x, h, r, rv, e => by
    cases Reps.nil_iff.mp r
    cases rv
    simp at e
  | d :: ds, ts, vs, its, i, x, h, r, rv, e => by
    obtain ⟨t, ts', h1, h2, rfl⟩ := textNs_cons h
    obtain ⟨v, r', rfl, r1, r2⟩ := Reps.cons_iff.mp r
    cases rv with
    | cons q1 q2 =>
      cases i with
      | zero =>
        rw [List.getElem?_cons_zero] at e
        cases e
        exact ⟨d, t, v, List.mem_cons_self, rfl, h1, r1, q1⟩
      | succ i =>
        rw [List.getElem?_cons_succ] at e
        obtain ⟨d', t', v', m, a1, a2, a3, a4⟩ := textNs_get h2 r2 q2 e
        exact ⟨d', t', v', List.mem_cons_of_mem _ m, by rw [List.getElem?_cons_succ]; exact a1, a2, a3, a4⟩
theorem elj_of {J : Shared → Prop} {A : Around} {E : Value → Shared → Prop} : ∀ {its : List Value} {ts : List Str}, its.length = ts.length → (∀ (i : Nat) (x : Value) (t : Str), its[i]? = some x → ts[i]? = some t → ∀ base, base + t.length ≤ sizeLine → ∀ s, J s → wpAny (model P w) A (pyReprUnder base x) (fun u s' => u = t ∧ J s') E s) → ElJ P w A E J its ts
  | [], [], _, _ => .nil
  | x :: its, t :: ts, hl, h => .cons (h 0 x t rfl rfl) (elj_of (by simpa using hl) fun i y u a b => h (i + 1) y u (by rw [List.getElem?_cons_succ]; exact a) (by rw [List.getElem?_cons_succ]; exact b))
  | [], _ :: _, hl, _ => by simp at hl
  | _ :: _, [], hl, _ => by simp at hl
theorem textN_dic {sm : Nat → Option FnI} {ks : List Key} {ds : List D} {t : Str} (h : textN sm (.dic ks ds) = some t) : ∃ kt ts, keyTs ks = some kt ∧ textNs sm ds = some ts ∧ t = dictText (zipT kt ts) := by
  have h : dicT (keyTs ks) (textNs sm ds) = some t := by rw [← h, textN]
  cases h1 : keyTs ks with
  | none => rw [h1] at h; cases h
  | some kt =>
    cases h2 : textNs sm ds with
    | none => rw [h1, h2] at h; cases h
    | some ts =>
      rw [h1, h2] at h
      exact ⟨kt, ts, rfl, rfl, (Option.some.inj h).symm⟩
theorem textNs_at {sm : Nat → Option FnI} {g : G} {F : Hp} : ∀ {ds : List D} {ts : List Str} {vs : List V} {i : Nat} {v : V}, textNs sm ds = some ts → Reps g F ds vs → vs[i]? = some v → ∃ d t, d ∈ ds ∧ ts[i]? = some t ∧ textN sm d = some t ∧ Rep g F d v
  | [], ts, vs, i, v, h, r, e => by
    rw [Reps.nil_iff.mp r] at e
    simp at e
  | d :: ds, ts, vs, i, v, h, r, e => by
    obtain ⟨t, ts', h1, h2, rfl⟩ := textNs_cons h
    obtain ⟨v', r', rfl, r1, r2⟩ := Reps.cons_iff.mp r
    cases i with
    | zero =>
      rw [List.getElem?_cons_zero] at e
      cases e
      exact ⟨d, t, List.mem_cons_self, rfl, h1, r1⟩
    | succ i =>
      rw [List.getElem?_cons_succ] at e
      obtain ⟨d', t', m, a1, a2, a3⟩ := textNs_at h2 r2 e
      exact ⟨d', t', List.mem_cons_of_mem _ m, by rw [List.getElem?_cons_succ]; exact a1, a2, a3⟩
theorem keyTs_cons {k : Key} {ks : List Key} {kt : List Str} (h : keyTs (k :: ks) = some kt) : ∃ t ts, keyT k = some t ∧ keyTs ks = some ts ∧ kt = t :: ts := by
  unfold keyTs at h
  split at h
  · rename_i t ts h1 h2
    cases h
    exact ⟨t, ts, h1, h2, rfl⟩
  · cases h
theorem keyTs_at : ∀ {ks : List Key} {kt : List Str} {i : Nat} {k : Key}, keyTs ks = some kt → ks[i]? = some k → ∃ t, kt[i]? = some t ∧ keyT k = some t
  | [], _, _, _, _, e => by simp at e
  | k :: ks, kt, i, k', h, e => by
    obtain ⟨t, ts, h1, h2, rfl⟩ := keyTs_cons h
    cases i with
    | zero =>
      rw [List.getElem?_cons_zero] at e
      cases e
      exact ⟨t, rfl, h1⟩
    | succ i =>
      rw [List.getElem?_cons_succ] at e
      obtain ⟨t', a1, a2⟩ := keyTs_at h2 e
      exact ⟨t', by rw [List.getElem?_cons_succ]; exact a1, a2⟩
theorem keyTs_len : ∀ {ks : List Key} {kt : List Str}, keyTs ks = some kt → kt.length = ks.length
  | [], _, h => by unfold keyTs at h; cases h; rfl
  | k :: ks, kt, h => by
    obtain ⟨t, ts, h1, h2, rfl⟩ := keyTs_cons h
    rw [List.length_cons, List.length_cons, keyTs_len h2]
theorem zipT_at : ∀ {ks vs : List Str} {i : Nat} {k v : Str}, ks[i]? = some k → vs[i]? = some v → (zipT ks vs)[i]? = some (k ++ ": " ++ v)
  | [], _, _, _, _, e, _ => by simp at e
  | _ :: _, [], _, _, _, _, e => by simp at e
  | k :: ks, v :: vs, 0, _, _, e1, e2 => by
    rw [List.getElem?_cons_zero] at e1 e2
    cases e1
    cases e2
    rfl
  | k :: ks, v :: vs, i + 1, _, _, e1, e2 => by
    rw [List.getElem?_cons_succ] at e1 e2
    have := zipT_at e1 e2
    unfold zipT
    rw [List.getElem?_cons_succ]
    exact this
theorem zipT_len : ∀ {ks vs : List Str}, ks.length = vs.length → (zipT ks vs).length = ks.length
  | [], [], _ => rfl
  | [], _ :: _, h => by cases h
  | _ :: _, [], h => by cases h
  | k :: ks, v :: vs, h => by
    unfold zipT
    rw [List.length_cons, List.length_cons, zipT_len (by simpa using h)]
theorem dic_at {P : Program} {w : World} : ∀ {ks : List Key} {vs : List V} {us : List (Key × Value)} {es : List DictEntry} {i : Nat} {e : DictEntry}, vs.length = ks.length → KV (ks.zip vs) us → Pairs (mixKind P w) es us → es[i]? = some e → ∃ k v, ks[i]? = some k ∧ vs[i]? = some v ∧ keyIs k e.key = true ∧ RelV v e.val
  | [], vs, us, es, i, e, hl, rk, hp, he => by
    cases rk
    cases hp
    simp at he
  | k :: ks, [], us, es, i, e, hl, rk, hp, he => by cases hl
  | k :: ks, v :: vs, us, es, i, e, hl, rk, hp, he => by
    rw [List.zip_cons_cons] at rk
    cases rk with
    | cons p1 p2 =>
      cases hp with
      | cons q1 q2 q3 =>
        obtain ⟨p3, p4⟩ := p1
        cases i with
        | zero =>
          rw [List.getElem?_cons_zero] at he
          cases he
          have e : k = _ := p3
          subst e
          exact ⟨_, v, rfl, rfl, by rw [← mixKind_is P w]; exact q1, by rw [q2]; exact p4⟩
        | succ i =>
          rw [List.getElem?_cons_succ] at he
          obtain ⟨k', v', a1, a2, a3, a4⟩ := dic_at (by simpa using hl) p2 q3 he
          exact ⟨k', v', by rw [List.getElem?_cons_succ]; exact a1, by rw [List.getElem?_cons_succ]; exact a2, a3, a4⟩
theorem dic_len {P : Program} {w : World} : ∀ {ks : List Key} {vs : List V} {us : List (Key × Value)} {es : List DictEntry}, vs.length = ks.length → KV (ks.zip vs) us → Pairs (mixKind P w) es us → es.length = ks.length
  | [], vs, us, es, hl, rk, hp => by
    cases rk
    cases hp
    rfl
  | k :: ks, [], us, es, hl, rk, hp => by cases hl
  | k :: ks, v :: vs, us, es, hl, rk, hp => by
    rw [List.zip_cons_cons] at rk
    cases rk with
    | cons p1 p2 =>
      cases hp with
      | cons q1 q2 q3 =>
        rw [List.length_cons, List.length_cons, dic_len (by simpa using hl) p2 q3]
theorem key_repr {prog : Program} {w : World} {A : Around} {E : Value → Shared → Prop} {k : Key} {v : Value} {t : Str} {b : Nat} {s : Shared} {J : Shared → Prop} (hk : keyIs k v = true) (ht : keyT k = some t) (hb : b + t.length ≤ sizeLine) (hJ : J s) (hK : ∀ tk, J { s with toks := tk }) :
    wpAny (model prog w) A (pyReprUnder b v) (fun u s' => u = t ∧ J s') E s := by
  rcases keyIs_shape hk with ⟨i, tt, rfl, rfl⟩ | ⟨x, tt, rfl, rfl⟩
  · have ht : (if i.natAbs.log2 < 1920 then some (Str.ofString (toString i)) else none) = some t := ht
    split at ht
    · rename_i hz
      cases ht
      exact ReprIs.int tt hz b hb _ _ _ _ fun tk => ⟨rfl, hK tk⟩
    · cases ht
  · have ht : (if (reprText x).length ≤ sizeLine then some (reprText x) else none) = some t := ht
    split at ht
    · rename_i hz
      cases ht
      exact ReprIs.str x tt hz b hb _ _ _ _ fun tk => ⟨rfl, hK tk⟩
    · cases ht
/-- a thing's repr, within others -/
theorem nest_repr {sn : Nat → Option FnI} {j : Nat} (c : Ct g P w mg base k N sc own true gb X W) (E : SpC false g P w mg base "__repr__" sn j) {σ : L2.St} {F : Hp} {as : List Addr} {μ : Sto} {s0 : Shared} {pins0 : List (Addr × Obj)} {H0 : Hp} (sr0 : SR g F as μ H0) (I0 : Inv X pins0 σ H0 s0) :
    ∀ (m : Nat) (d : D), sizeOf d < m → ∀ (t : Str), textN sn d = some t → ∀ (v : V) (x : Value), Rep g F d v → RelV v x → ∀ (n : Nat), (∀ a, x = .ref a → SzLow s0.heap n a) → ∀ (b : Nat), b + t.length ≤ sizeLine → ∀ (A : Around) (gd : List Code), A.guards = some gd → SzCl s0.heap n gd → AtA X (j + n + 2) A →
      ∀ (pins : List (Addr × Obj)) (s : Shared), JR g X pins σ F as μ s → wpAny (model X.prog X.w) A (pyReprUnder b x) (fun u s' => u = t ∧ JR g X pins σ F as μ s') X.xe s := by
  intro m
  induction m with
  | zero => intro d hd; exact absurd hd (Nat.not_lt_zero _)
  | succ m ih =>
    intro d hd t ht v x rd rv n hn b hb A gd hg hcl hA pins s hJ
    have hub : A.units < cLine := by have := hA.room.un; omega
    cases d with
    | tup ds =>
      obtain ⟨ts, h1, rfl⟩ := textN_tup ht
      have rd0 := rd
      unfold Rep at rd
      obtain ⟨a, vs, rfl, e1, e2⟩ := rd
      cases (show x = Value.ref a from rv)
      have low := hn a rfl
      obtain ⟨its0, r0, ht0, _⟩ := I0.tuple (c.hK ▸ seqT_mono sr0.sub e1)
      obtain ⟨q, q1, q2, q3⟩ := SzLow.least n low
      obtain ⟨o0, g0, c0, n0, d0⟩ := ht0
      cases q with
      | zero => exact absurd c0 (q2 o0 g0).1
      | succ q =>
        have hq := q3 q (Nat.lt_succ_self _)
        obtain ⟨F', as', H', x', sr', I'⟩ := id hJ
        obtain ⟨its, r1, ht1, _⟩ := I'.tuple (c.hK ▸ seqT_mono sr'.sub (seqT_mono x'.1 e1))
        have hA1 : AtA X (j + q + 2) (A.under (.builtin "tuple.__repr__.under" ⟨[.ref a, rawInt b], []⟩)) := AtA.tup (hA.mono (by omega)) a _
        refine sz_tuple_under ht1 hg (hcl.clear low) hub hJ (elj_of (by rw [← Paired.length r1, textNs_len h1]; exact Reps.length e2) fun i y u hi hu base hbase st hst => ?_) hb fun s' tk hj => ⟨rfl, hj.tok tk⟩
        obtain ⟨d', t', v', m1, m2, m3, m4, m5⟩ := textNs_get h1 e2 r1 hi
        rw [hu] at m2
        cases m2
        have hsz : sizeOf d' < m := by
          have := List.sizeOf_lt_of_mem m1
          simp only [D.tup.sizeOf_spec] at hd
          omega
        exact ih d' hsz u m3 v' y m4 m5 q (fun z ez => q2.1 o0 its0.toArray n0 g0 (.inl c0) d0 z (by
          subst ez
          have hz := vals_ref r1 r0 (List.mem_of_getElem? hi)
          simpa using hz)) base hbase _ _ (guards_under_guard (isGuard_tuple_repr_under _) hg) (hcl.cons (by omega) hq) hA1 pins st hst
    | lst ds =>
      obtain ⟨ts, h1, rfl⟩ := textN_lst ht
      unfold Rep at rd
      obtain ⟨a, vs, rfl, e1, e2⟩ := rd
      cases (show x = Value.ref a from rv)
      have low := hn a rfl
      have sq0 : SqL X.K H0 a vs := .inl (.inl (sr0.sub _ _ e1))
      obtain ⟨its0, r0, ⟨o0, n0, g0, c0, _, d0⟩, _⟩ := I0.list sq0
      obtain ⟨q, q1, q2, q3⟩ := SzLow.least n low
      cases q with
      | zero => exact absurd c0 (q2 o0 g0).2.1
      | succ q =>
        have hq := q3 q (Nat.lt_succ_self _)
        have ltv : ts.length = vs.length := by rw [textNs_len h1]; exact (Reps.length e2).symm
        have look : ∀ (pins' : List (Addr × Obj)) (s' : Shared), JR g X pins' σ F as μ s' → ∃ its : List Value, Vals vs its ∧ PlainL s'.heap a its.toArray := fun pins' s' h => by
          obtain ⟨F', as', H', x', sr', I'⟩ := h
          obtain ⟨its, r1, pl, _⟩ := I'.list (a := a) (xs := vs) (.inl (.inl (sr'.sub _ _ (x'.1 _ _ e1))))
          exact ⟨its, r1, pl⟩
        obtain ⟨its, r1, ⟨o1, n1, g1, c1, _, d1⟩⟩ := look pins s hJ
        cases its with
        | nil =>
          cases r1
          have : ts = [] := by
            cases ts with
            | nil => rfl
            | cons _ _ => simp at ltv
          subst this
          rw [listText_nil] at hb ⊢
          exact sz_list_empty g1 c1 d1 hub hb fun tk => ⟨rfl, hJ.tok tk⟩
        | cons y l =>
          refine sz_list_under (E := X.xe) (J := JR g X pins σ F as μ) (JP := JQ g X pins σ F as μ) ⟨o1, g1, c1⟩ hg (hcl.clear low) hub g1 d1 (JQ.new hJ (fun v z => by cases z) rfl) (fun Pa ob s' h => h.drop) (fun Pa ob s' h => ?_) (fun Pa ob s' h => h.at_) (fun Pa acc acc' cc cc' s' f tk h e => h.write tk e fun v z => by cases z) (fun Pa ob s' tk h => h.tok tk) hb fun s' h => ⟨rfl, h⟩
          obtain ⟨its2, r2, ⟨o2, n2, g2, c2, _, d2⟩⟩ := look _ s' h.1
          refine ⟨o2, its2.toArray, n2, g2, d2, by rw [ltv, Paired.length r2]; simp, fun i z hi => ?_⟩
          have hi' : its2[i]? = some z := by simpa using hi
          obtain ⟨d', t', v', m1, m2, m3, m4, m5⟩ := textNs_get h1 e2 r2 hi'
          refine ⟨t', m2, fun rest base hbase st hst => ?_⟩
          have hsz : sizeOf d' < m := by
            have := List.sizeOf_lt_of_mem m1
            simp only [D.lst.sizeOf_spec] at hd
            omega
          have hA1 : AtA X (j + q + 2) (A.under (.builtin "list.__repr__.loop" ⟨.ref a :: rest, []⟩)) := AtA.lst (hA.mono (by omega)) a _
          refine wpAny_mono (ih d' hsz t' m3 v' z m4 m5 q (fun zz ez => q2.1 o0 its0.toArray n0 g0 (.inr c0) d0 zz (by
            subst ez
            have hz := vals_ref r2 r0 (List.mem_of_getElem? hi')
            simpa using hz)) base hbase _ _ (guards_under_guard (isGuard_list_loop _) hg) (hcl.cons (by omega) hq) hA1 (pins ++ [(Pa, ob)]) st hst.1) (fun u s'' hu => ⟨hu.1, hu.2, hst.2⟩) fun _ _ z => z
    | dic ks ds =>
      obtain ⟨kt, ts, hkt, h1, rfl⟩ := textN_dic ht
      unfold Rep at rd
      obtain ⟨a, ob, vs, rfl, e1, e2, e3⟩ := rd
      cases (show x = Value.ref a from rv)
      have low := hn a rfl
      obtain ⟨g0, _, lo, us', rk, o', es, ep, ho, hx', hd', hk, hp, hnn⟩ := (show ObjOk X.prog X.w H0 s0.heap a (.frz ob (.dK (ks.zip vs))) from I0.hok a _ (sr0.sub _ _ e1))
      cases g0.symm.trans ho
      have lts : ts.length = ks.length := by rw [textNs_len h1, ← e2]; exact (Reps.length e3).symm
      have les : es.size = ks.length := by
        have := dic_len e2 rk hp
        simpa using this
      obtain ⟨q, q1, q2, q3⟩ := SzLow.least n low
      cases q with
      | zero => exact absurd hx'.1 (q2 ob g0).2.2
      | succ q =>
        have hq := q3 q (Nat.lt_succ_self _)
        have hA1 : AtA X (j + q + 2) (A.under (.builtin "dict.__repr__.under" ⟨[.ref a, rawInt b], []⟩)) := AtA.dic (hA.mono (by omega)) a _
        refine sz_dict_under (J := JR g X pins σ F as μ) hx'.1 hd' lo (by rw [zipT_len (by rw [keyTs_len hkt, lts]), keyTs_len hkt, les]) (fun s' h => ?_) (fun s' tk h => h.tok tk) (fun i e he => ?_) hg (hcl.clear low) hub hJ (fun s' h => ⟨rfl, h⟩) hb
        · obtain ⟨F', as', H', x', sr', I'⟩ := h
          exact (show ObjOk X.prog X.w H' s'.heap a (.frz ob (.dK (ks.zip vs))) from I'.hok a _ (sr'.sub _ _ (x'.1 _ _ e1))).1
        · have he' : es.toList[i]? = some e := by rw [Array.getElem?_toList]; exact he
          obtain ⟨ky, v', k1, v1, k2, v2⟩ := dic_at e2 rk hp he'
          obtain ⟨t1, t2, t3⟩ := keyTs_at hkt k1
          obtain ⟨d', t', m1, m2, m3, m4⟩ := textNs_at h1 e3 v1
          have hsz : sizeOf d' < m := by
            have := List.sizeOf_lt_of_mem m1
            simp only [D.dic.sizeOf_spec] at hd
            omega
          refine ⟨t1, t', zipT_at t2 m2, fun base hbase st hst => key_repr k2 t3 hbase hst fun tk => hst.tok tk, fun base hbase st hst => ?_⟩
          exact ih d' hsz t' m3 v' e.val m4 v2 q (fun z ez => q2.2 ob es ep g0 hx'.1 hd' e (List.mem_of_getElem? he') z ez) base hbase _ _ (guards_under_guard (isGuard_dict_repr_under _) hg) (hcl.cons (by omega) hq) hA1 pins st hst
    | non =>
      have ht : textO sn .non = some t := by rw [← ht]; unfold textN; rfl
      cases ht
      unfold Rep at rd
      subst rd
      cases (show x = Value.none from rv)
      exact ReprIs.none b hb _ _ _ _ fun tk => ⟨rfl, hJ.tok tk⟩
    | bl y =>
      have ht : textO sn (.bl y) = some t := by rw [← ht]; unfold textN; rfl
      cases ht
      unfold Rep at rd
      subst rd
      cases (show x = Value.bool y from rv)
      exact ReprIs.bool y b hb _ _ _ _ fun tk => ⟨rfl, hJ.tok tk⟩
    | int z =>
      have ht : (if z.natAbs.log2 < 1920 then some (Str.ofString (toString z)) else none) = some t := by rw [← ht]; unfold textN; rfl
      split at ht
      · rename_i hz
        cases ht
        unfold Rep at rd
        subst rd
        obtain ⟨tt, rfl⟩ := (show ∃ t, x = Value.int z t from rv)
        exact ReprIs.int tt hz b hb _ _ _ _ fun tk => ⟨rfl, hJ.tok tk⟩
      · cases ht
    | str y =>
      have ht : (if (reprText y).length ≤ sizeLine then some (reprText y) else none) = some t := by rw [← ht]; unfold textN; rfl
      split at ht
      · rename_i hz
        cases ht
        unfold Rep at rd
        subst rd
        obtain ⟨tt, rfl⟩ := (show ∃ t, x = Value.str y t from rv)
        exact ReprIs.str y tt hz b hb _ _ _ _ fun tk => ⟨rfl, hJ.tok tk⟩
      · cases ht
    | obj ci fs =>
      have ht : ((sn ci).bind fun fi => match ownSem fi (.obj ci fs) with
        | some (.str t) => some t
        | _ => none) = some t := by rw [← ht]; unfold textN; rfl
      obtain ⟨fi, hfi, h2⟩ := Option.bind_eq_some_iff.mp ht
      split at h2
      · rename_i t' ho
        cases h2
        have hs := ownSem_some ho
        obtain ⟨f, FC, hfind, hfn, hps⟩ := E.ok ci fi hfi
        obtain ⟨F', as', H', x', sr', I'⟩ := hJ
        have rd' := rd.mono x'.1
        obtain ⟨a, dx, us, rfl, ha, _, _⟩ := vr_obj sr' (.inr rd')
        cases (show x = Value.ref a from rv)
        obtain ⟨mA, J, _⟩ := ins_get I'.hok ha
        obtain ⟨od, J, _⟩ := J.look
        have hr := hA.room.mono (show j ≤ j + n + 2 by omega)
        refine pyRepr_own (by omega) hub I'.kIn J (c.hK ▸ hfind) (c.hK ▸ hfn) ?_
        have en : Env0 X.prog X.w X.K X.mg X.base A X.stack s H' := ⟨hA.fr.trans I'.env0.frames, I'.env0.mod, I'.env0.bs, I'.env0.bsz, I'.env0.funs, I'.env0.frf, I'.env0.hok, I'.env0.bare⟩
        refine wpAny_mono (own_run c FC rfl hps hr (fun e => nomatch e) hs sr' rd' I' en) (fun v s' told => ?_) fun _ _ z => z
        obtain ⟨F2, as2, w', H2, x2, sr2, rw', rel, I2⟩ := told
        unfold Rep at rw'
        subst rw'
        obtain ⟨tt, rfl⟩ := (show ∃ tt, v = Value.str t tt from rel)
        exact ⟨t, tt, rfl, rfl, F2, as2, H2, x'.trans x2, sr2, I2⟩
      · cases h2
    | ty _ => unfold textN textO at ht; cases ht
    | fn _ => unfold textN textO at ht; cases ht
    | cls _ => unfold textN textO at ht; cases ht
    | scr _ => unfold textN textO at ht; cases ht
    | exc _ _ => unfold textN textO at ht; cases ht
theorem depthN_mem {d : D} : ∀ {ds : List D}, d ∈ ds → depthN d ≤ depthNs ds
  | [], h => nomatch h
  | e :: ds, h => by
    rw [depthNs]
    rcases List.mem_cons.mp h with e | h
    · rw [e]; exact Nat.le_max_left _ _
    · exact Nat.le_trans (depthN_mem h) (Nat.le_max_right _ _)
theorem vals_back {g : G} {F : Hp} {sn : Nat → Option FnI} : ∀ {ds : List D} {ts : List Str} {vs : List V} {its : List Value} {x : Value}, textNs sn ds = some ts → Reps g F ds vs → Vals vs its → x ∈ its → ∃ d t v, d ∈ ds ∧ textN sn d = some t ∧ Rep g F d v ∧ RelV v x := fun h r rv m => by
  obtain ⟨i, hi⟩ := List.getElem?_of_mem m
  obtain ⟨d, t, v, a1, _, a2, a3, a4⟩ := textNs_get h r rv hi
  exact ⟨d, t, v, a1, a2, a3, a4⟩
/-- how high a thing is in the heap -/
theorem low_rep {sn : Nat → Option FnI} {σ : L2.St} {F : Hp} {as : List Addr} {μ : Sto} {s0 : Shared} {pins0 : List (Addr × Obj)} {H0 : Hp} (hg : g.K = X.K) (sr0 : SR g F as μ H0) (I0 : Inv X pins0 σ H0 s0) :
    ∀ (m : Nat) (d : D), sizeOf d < m → ∀ (t : Str), textN sn d = some t → ∀ (v : V) (x : Value), Rep g F d v → RelV v x → ∀ a, x = .ref a → SzLow s0.heap (depthN d) a := by
  intro m
  induction m with
  | zero => intro d hd; exact absurd hd (Nat.not_lt_zero _)
  | succ m ih =>
    intro d hd t ht v x rd rv a ex
    cases d with
    | tup ds =>
      obtain ⟨ts, h1, rfl⟩ := textN_tup ht
      unfold Rep at rd
      obtain ⟨a', vs, rfl, e1, e2⟩ := rd
      cases (show x = Value.ref a' from rv)
      cases ex
      obtain ⟨its0, r0, ht0, _⟩ := I0.tuple (hg ▸ seqT_mono sr0.sub e1)
      obtain ⟨o0, g0, c0, n0, d0⟩ := ht0
      rw [depthN]
      refine ⟨fun o its n ho hc hdt b hb => ?_, fun o es n ho hc => by
        rw [g0] at ho
        cases ho
        rw [c0] at hc
        exact absurd hc (by decide)⟩
      rw [g0] at ho
      cases ho
      rw [d0] at hdt
      cases hdt
      obtain ⟨d', t', v', m1, m3, m4, m5⟩ := vals_back h1 e2 r0 (by simpa using hb)
      have hsz : sizeOf d' < m := by
        have := List.sizeOf_lt_of_mem m1
        simp only [D.tup.sizeOf_spec] at hd
        omega
      exact (ih d' hsz t' m3 v' _ m4 m5 b rfl).mono (depthN_mem m1)
    | lst ds =>
      obtain ⟨ts, h1, rfl⟩ := textN_lst ht
      unfold Rep at rd
      obtain ⟨a', vs, rfl, e1, e2⟩ := rd
      cases (show x = Value.ref a' from rv)
      cases ex
      obtain ⟨its0, r0, ⟨o0, n0, g0, c0, _, d0⟩, _⟩ := I0.list (a := a) (xs := vs) (.inl (.inl (sr0.sub _ _ e1)))
      rw [depthN]
      refine ⟨fun o its n ho hc hdt b hb => ?_, fun o es n ho hc => by
        rw [g0] at ho
        cases ho
        rw [c0] at hc
        exact absurd hc (by decide)⟩
      rw [g0] at ho
      cases ho
      rw [d0] at hdt
      cases hdt
      obtain ⟨d', t', v', m1, m3, m4, m5⟩ := vals_back h1 e2 r0 (by simpa using hb)
      have hsz : sizeOf d' < m := by
        have := List.sizeOf_lt_of_mem m1
        simp only [D.lst.sizeOf_spec] at hd
        omega
      exact (ih d' hsz t' m3 v' _ m4 m5 b rfl).mono (depthN_mem m1)
    | dic ks ds =>
      obtain ⟨kt, ts, hkt, h1, rfl⟩ := textN_dic ht
      unfold Rep at rd
      obtain ⟨a', ob, vs', rfl, e1, e2, e3⟩ := rd
      cases (show x = Value.ref a' from rv)
      cases ex
      obtain ⟨g0, _, lo, us', rk, o', es, ep, ho, hx', hd', hk, hp, hnn⟩ := (show ObjOk X.prog X.w H0 s0.heap a (.frz ob (.dK (ks.zip vs'))) from I0.hok a _ (sr0.sub _ _ e1))
      cases g0.symm.trans ho
      rw [depthN]
      refine ⟨fun o2 its n ho2 hc _ => ?_, fun o2 es2 n ho2 hc hdt e he b hb => ?_⟩
      · rw [g0] at ho2
        cases ho2
        rw [hx'.1] at hc
        exact absurd hc (by decide)
      · rw [g0] at ho2
        cases ho2
        rw [hd'] at hdt
        cases hdt
        obtain ⟨i, hi⟩ := List.getElem?_of_mem he
        obtain ⟨ky, v', k1, v1, k2, v2⟩ := dic_at e2 rk hp hi
        obtain ⟨d', t', m1, m2, m3, m4⟩ := textNs_at h1 e3 v1
        have hsz : sizeOf d' < m := by
          have := List.sizeOf_lt_of_mem m1
          simp only [D.dic.sizeOf_spec] at hd
          omega
        exact (ih d' hsz t' m3 v' _ m4 v2 b hb).mono (depthN_mem m1)
    | obj ci fs =>
      obtain ⟨a', dx, us, rfl, ha, _, _⟩ := vr_obj sr0 (.inr rd)
      cases (show x = Value.ref a' from rv)
      cases ex
      obtain ⟨mA, J, _⟩ := ins_get I0.hok ha
      obtain ⟨od, J, _⟩ := J.look
      obtain ⟨j1, j2, _⟩ := J
      rw [depthN]
      · intro o2 ho2
        rw [j1] at ho2
        cases ho2
        rw [j2]
        refine ⟨fun z => ?_, fun z => ?_, fun z => ?_⟩
        all_goals cases z
      all_goals (intros; rename_i z; cases z)
    | non => unfold Rep at rd; subst rd; cases (show x = Value.none from rv); cases ex
    | bl _ => unfold Rep at rd; subst rd; cases (show x = Value.bool _ from rv); cases ex
    | int z => unfold Rep at rd; subst rd; obtain ⟨tt, rfl⟩ := (show ∃ t, x = Value.int z t from rv); cases ex
    | str z => unfold Rep at rd; subst rd; obtain ⟨tt, rfl⟩ := (show ∃ t, x = Value.str z t from rv); cases ex
    | ty _ => unfold textN textO at ht; cases ht
    | fn _ => unfold textN textO at ht; cases ht
    | cls _ => unfold textN textO at ht; cases ht
    | scr _ => unfold textN textO at ht; cases ht
    | exc _ _ => unfold textN textO at ht; cases ht
end
def CallOkD (g : G) (X : Cx) (f : Value) (op : List D → Option S) : Prop :=
  ∀ (xs : List D) (s : S) (F : Hp) (as : List Addr) (μ : Sto) (H : Hp) (vs : List V) (Q : VK), op xs = some s → SR g F as μ H → Reps g F xs vs →
    (∀ F' as' w H', Ext F as F' as' → SR g F' as' μ H' → RA g F' as' H' s w → Q w H') → ∀ (pins : List (Addr × Obj)) (st : Shared) (σ : L2.St) (us : List Value), Inv X pins σ H st → Vals vs us → wpAny (model X.prog X.w) X.A (call f us) (EP X pins σ Q) X.xe st
def finD (op : List D → Option S) (ss : List S) (μ : Sto) : Option R := match dvals ss with
  | some xs => (match op xs with
    | some s => some (.ok s, μ)
    | none => none)
  | none => none
def mCallD (op : List D → Option S) (ms : List ME) : ME := fun ρ μ => andThen (mArgs ms ρ μ) (finD op)
theorem finD_some {op : List D → Option S} {ss : List S} {μ μ' : Sto} {r : Except Ex S} (h : finD op ss μ = some (r, μ')) : ∃ xs s, dvals ss = some xs ∧ op xs = some s ∧ r = .ok s ∧ μ' = μ := by
  unfold finD at h
  split at h
  · rename_i xs h1
    split at h
    · rename_i s h2
      cases h
      exact ⟨xs, s, h1, h2, rfl, rfl⟩
    · cases h
  · cases h
section
variable {g : G} {X : Cx} {W : WX} {e : Expr} {es : List Expr} {ms : List ME} {pos p : Pos} {x : Str} {op : List D → Option S} {id : String}
theorem se_callD (ho : CallOkD g X (.builtin id) op) (hg : Gl X x) (hm : X.mg x = none) (hv : bootBuiltins x = some (.builtin id)) (hn : x ≠ "__name__") (hdb : (x == ("__debug__" : Str)) = false) (hst : (e :: es).all notStar = true)
    (ha : SA g X W (e :: es) (mArgs ms)) : SE g X W (.Call (.Name x p) (e :: es) [] pos) (mCallD op ms) := by
  rw [List.all_cons, Bool.and_eq_true] at hst
  refine ⟨fun F as ρ μ σ H Q r μ' h sr er post => wE (pe_callB call_can hg hm hv pa_wp hn hdb (starEach_cons hst.1) (starEach_plain hst.2)) ?_⟩
  show wpA X (e :: es) σ H _
  refine ha.then_ (show andThen _ _ = some (r, μ') from h) sr er (fun x e => by subst e; exact post) fun ss μ1 F1 as1 vs H1 h1 x1 sr1 er1 rs1 => ?_
  obtain ⟨xs, s, e1, e2, e3, e4⟩ := finD_some h1
  subst e3 e4
  exact ho xs s F1 as1 μ' H1 vs Q e2 sr1 (dv_reps rs1 e1) fun F' as' w H' e' r' q => post F' as' w H' (x1.trans e') r' q
end
def topN : Option Str → Nat → Option S
  | some t, n => if t.length ≤ sizeLine ∧ n ≤ 60 then some (.val (.str t)) else none
  | none, _ => none
/-- repr(x), x any thing -/
noncomputable def bReprN (sm sn : Nat → Option FnI) : List D → Option S
  | [.obj c fs] => (match sm c with
    | some fi => strK (ownSem fi (.obj c fs))
    | none => none)
  | [.tup ds] => topN (textN sn (.tup ds)) (depthN (.tup ds))
  | [.lst ds] => topN (textN sn (.lst ds)) (depthN (.lst ds))
  | [.dic ks ds] => topN (textN sn (.dic ks ds)) (depthN (.dic ks ds))
  | xs => bReprK xs
theorem reps_vrs {g : G} {F H : Hp} : ∀ {ds : List D} {vs : List V}, Reps g F ds vs → VRs g F H ds vs
  | [], vs, h => by rw [Reps.nil_iff.mp h]; exact .nil
  | d :: ds, vs, h => by
    obtain ⟨v, r, rfl, h1, h2⟩ := Reps.cons_iff.mp h
    exact .cons (.inr h1) (reps_vrs h2)
section
variable {g : G} {P : Program} {w : World} {mg : Str → Option Value} {base : Heap} {k : Nat} {N : List Str} {sc : Scope} {own cm gb gc : Bool} {X : Cx} {W : WX} {frees globs : List Str}
theorem topN_some {o : Option Str} {n : Nat} {s : S} (h : topN o n = some s) : ∃ t, o = some t ∧ s = .val (.str t) ∧ t.length ≤ sizeLine ∧ n ≤ 60 := by
  cases o with
  | none => cases h
  | some t =>
    have h : (if t.length ≤ sizeLine ∧ n ≤ 60 then some (S.val (.str t)) else none) = some s := h
    by_cases hh : t.length ≤ sizeLine ∧ n ≤ 60
    · rw [if_pos hh] at h
      cases h
      exact ⟨t, rfl, rfl, hh.1, hh.2⟩
    · rw [if_neg hh] at h
      cases h
theorem Ct.reprN {sm sn : Nat → Option FnI} {i j : Nat} (c : Ct g P w mg base k N sc own true gb X W) (E : SpC gc g P w mg base "__repr__" sm i) (En : SpC false g P w mg base "__repr__" sn j) (hgd : leB gc gb = true) (gd : X.A.guards = some []) (hi : Nat.ble (i + 1) k = true) (hj : Nat.ble (j + 66) k = true) : CallOkD g X (.builtin "repr") (bReprN sm sn) := by
  intro xs s F as μ H vs Q e sr hx kk
  unfold bReprN at e
  split at e
  · rename_i ci fs
    have e2 : bReprO sm sn [.obj ci fs] = some s := e
    exact c.reprO E En hgd gd hi (by
      have := Nat.le_of_ble_eq_true hj
      exact Nat.ble_eq_true_of_le (by omega)) _ s F as μ H vs Q e2 sr (reps_vrs hx) kk
  · rename_i ds
    obtain ⟨t, ht, rfl, hz, hdp⟩ := topN_some e
    obtain ⟨v, r, rfl, rd, r0⟩ := Reps.cons_iff.mp hx
    cases Reps.nil_iff.mp r0
    intro pins st σ us I ru
    obtain ⟨u, rfl, r1⟩ := ru.one
    have hr := (c.room rfl).mono (Nat.le_of_ble_eq_true hj)
    have low := low_rep (c.hK.symm) sr I (sizeOf (D.tup ds) + 1) _ (Nat.lt_succ_self _) t ht v u rd r1
    obtain ⟨ts, h1, rfl⟩ := textN_tup ht
    unfold Rep at rd
    obtain ⟨p, ws, rfl, e1, e2⟩ := rd
    cases (show u = Value.ref p from r1)
    have low := low p rfl
    obtain ⟨its, q1, ht1, _⟩ := I.tuple (c.hK ▸ seqT_mono sr.sub e1)
    have hs1 : ∀ d' ∈ ds, True := fun _ _ => trivial
    refine call_repr_slot (by have := c.hu; omega) ht1.typeIs PySem.F.slot_tuple_repr ?_
    have hA1 : AtA X (j + depthNs ds + 2) ((X.A.in1).under (.builtin "tuple.__repr__" ⟨[.ref p], []⟩)) := by
      rw [depthN] at hdp
      have hr3 : Room (j + depthNs ds + 2 + 2) X.A := hr.mono (by omega)
      exact ⟨Room.tupr (Room.in1 hr3), by
        first | rfl | (simp [Around.under, Code.envs, Code.isFrame, pushEnvs]; rfl)⟩
    have hcl : SzCl st.heap (depthNs ds) [Code.builtin "tuple.__repr__" ⟨[.ref p], []⟩] → True := fun _ => trivial
    obtain ⟨q, l1, l2, l3⟩ := SzLow.least _ low
    obtain ⟨o0, g0, c0, n0, d0⟩ := id ht1
    cases q with
    | zero => exact absurd c0 (l2 o0 g0).1
    | succ q =>
      have hq := l3 q (Nat.lt_succ_self _)
      rw [depthN] at l1 hdp
      refine tup_reprJ (A := X.A.in1) (J := JR g X pins σ F as μ) ht1 gd ⟨F, as, H, .refl, sr, I⟩ (elj_of (by rw [← Paired.length q1, textNs_len h1]; exact Reps.length e2) fun i y u hi hu base hbase st' hst => ?_) hz fun s' u hJ => ?_
      · obtain ⟨d', t', v', m1, m2, m3, m4, m5⟩ := textNs_get h1 e2 q1 hi
        rw [hu] at m2
        cases m2
        exact nest_repr c En sr I (sizeOf d' + 1) d' (Nat.lt_succ_self _) u m3 v' y m4 m5 q (fun z ez => l2.1 o0 its.toArray n0 g0 (.inl c0) d0 z (by
          subst ez
          simpa using List.mem_of_getElem? hi)) base hbase ((X.A.in1).under (.builtin "tuple.__repr__" ⟨[.ref p], []⟩)) _ (guards_under_guard (A := X.A.in1) (isGuard_tuple_repr _) gd) (SzCl.nil.cons (Nat.le_refl _) hq) (hA1.mono (r' := j + q + 2) (by omega)) pins st' hst
      · obtain ⟨F', as', H', x', sr', I'⟩ := hJ
        exact ⟨_, _, rfl, .str _, H', I'.tok _, ⟨_, rfl⟩, kk F' as' _ H' x' sr' ra_str⟩
  · rename_i ds
    obtain ⟨t, ht, rfl, hz, hdp⟩ := topN_some e
    obtain ⟨v, r, rfl, rd, r0⟩ := Reps.cons_iff.mp hx
    cases Reps.nil_iff.mp r0
    intro pins st σ us I ru
    obtain ⟨u, rfl, r1⟩ := ru.one
    have hr := (c.room rfl).mono (Nat.le_of_ble_eq_true hj)
    have low := low_rep (c.hK.symm) sr I (sizeOf (D.lst ds) + 1) _ (Nat.lt_succ_self _) t ht v u rd r1
    obtain ⟨ts, h1, rfl⟩ := textN_lst ht
    unfold Rep at rd
    obtain ⟨p, ws, rfl, e1, e2⟩ := rd
    cases (show u = Value.ref p from r1)
    have low := low p rfl
    have look : ∀ (pins' : List (Addr × Obj)) (s' : Shared), JR g X pins' σ F as μ s' → ∃ its : List Value, Vals ws its ∧ PlainL s'.heap p its.toArray := fun pins' s' h => by
      obtain ⟨F', as', H', x', sr', I'⟩ := h
      obtain ⟨its, r1, pl, _⟩ := I'.list (a := p) (xs := ws) (.inl (.inl (sr'.sub _ _ (x'.1 _ _ e1))))
      exact ⟨its, r1, pl⟩
    have hJ0 : JR g X pins σ F as μ st := ⟨F, as, H, .refl, sr, I⟩
    obtain ⟨its, q1, ⟨o1, n1, g1, c1, _, d1⟩⟩ := look pins st hJ0
    have ltv : ts.length = ws.length := by rw [textNs_len h1]; exact (Reps.length e2).symm
    obtain ⟨q, l1, l2, l3⟩ := SzLow.least _ low
    refine call_repr_slot (by have := c.hu; omega) ⟨o1, g1, c1⟩ PySem.F.slot_list_repr.toG ?_
    have done : ∀ s', JR g X pins σ F as μ s' → ∃ y t, Value.str (listText ts) s'.toks = .str y t ∧ EP X pins σ Q (.str (listText ts) s'.toks) s' := fun s' hJ => by
      obtain ⟨F', as', H', x', sr', I'⟩ := hJ
      exact ⟨_, _, rfl, .str _, H', I', ⟨_, rfl⟩, kk F' as' _ H' x' sr' ra_str⟩
    cases q with
    | zero => exact absurd c1 (l2 o1 g1).2.1
    | succ q =>
      have hq := l3 q (Nat.lt_succ_self _)
      rw [depthN] at l1 hdp
      cases its with
      | nil =>
        cases q1
        have : ts = [] := by
          cases ts with
          | nil => rfl
          | cons _ _ => simp at ltv
        subst this
        rw [listText_nil] at *
        refine call_list_repr_empty ⟨o1, g1, c1⟩ g1 d1 ?_
        obtain ⟨F', as', H', x', sr', I'⟩ := hJ0
        exact ⟨_, _, rfl, .str _, H', I'.tok _, ⟨_, rfl⟩, kk F' as' _ H' x' sr' ra_str⟩
      | cons y l =>
        refine wpAny_mono (sz_list_top (A := X.A.in1) (E := X.xe) (Q := fun y s' => y = listText ts ∧ JR g X pins σ F as μ s') (J := JR g X pins σ F as μ) (JP := JQ g X pins σ F as μ) ⟨o1, g1, c1⟩ (g := []) gd (fun _ _ _ _ h => nomatch h) g1 d1 (JQ.new hJ0 (fun v z => by cases z) rfl) (fun Pa ob s' h => h.drop) (fun Pa ob s' h => ?_) (fun Pa ob s' h => h.at_) (fun Pa acc acc' cc cc' s' f tk h e => h.write tk e fun v z => by cases z) (fun Pa ob s' tk h => h.tok tk) hz fun s' h => ⟨rfl, h⟩) (fun v s' hv => ?_) fun _ _ z => z
        · obtain ⟨its2, r2, ⟨o2, n2, g2, c2, _, d2⟩⟩ := look _ s' h.1
          refine ⟨o2, its2.toArray, n2, g2, d2, by rw [ltv, Paired.length r2]; simp, fun i z hi => ?_⟩
          have hi' : its2[i]? = some z := by simpa using hi
          obtain ⟨d', t', v', m1, m2, m3, m4, m5⟩ := textNs_get h1 e2 r2 hi'
          refine ⟨t', m2, fun rest base hbase st' hst => ?_⟩
          have hr3 : AtA X (j + q + 2) ((X.A.in1).under (.builtin "list.__repr__.loop" ⟨.ref p :: rest, []⟩)) := by
            have hr4 : Room (j + q + 2 + 1 + 1) X.A := hr.mono (by omega)
            have a1 : AtA X (j + q + 2 + 1) X.A.in1 := ⟨Room.in1 hr4, rfl⟩
            exact AtA.lst a1 p rest
          refine wpAny_mono (nest_repr c En sr I (sizeOf d' + 1) d' (Nat.lt_succ_self _) t' m3 v' z m4 m5 q (fun zz ez => l2.1 o1 (y :: l).toArray n1 g1 (.inr c1) d1 zz (by
            subst ez
            have hz := vals_ref r2 q1 (List.mem_of_getElem? hi')
            simpa using hz)) base hbase ((X.A.in1).under (.builtin "list.__repr__.loop" ⟨.ref p :: rest, []⟩)) _ (guards_under_guard (A := X.A.in1) (isGuard_list_loop _) gd) (SzCl.nil.cons (Nat.le_refl _) hq) hr3 (pins ++ [(Pa, ob)]) st' hst.1) (fun u s'' hu => ⟨hu.1, hu.2, hst.2⟩) fun _ _ z => z
        · obtain ⟨y', u', rfl, rfl, hJ'⟩ := hv
          obtain ⟨F', as', H', x', sr', I'⟩ := hJ'
          exact ⟨_, _, rfl, .str _, H', I', ⟨_, rfl⟩, kk F' as' _ H' x' sr' ra_str⟩
  · rename_i ks ds
    obtain ⟨t, ht, rfl, hz, hdp⟩ := topN_some e
    obtain ⟨v, r, rfl, rd, r0⟩ := Reps.cons_iff.mp hx
    cases Reps.nil_iff.mp r0
    intro pins st σ us I ru
    obtain ⟨u, rfl, r1⟩ := ru.one
    have hr := (c.room rfl).mono (Nat.le_of_ble_eq_true hj)
    have low := low_rep (c.hK.symm) sr I (sizeOf (D.dic ks ds) + 1) _ (Nat.lt_succ_self _) t ht v u rd r1
    obtain ⟨kt, ts, hkt, h1, rfl⟩ := textN_dic ht
    unfold Rep at rd
    obtain ⟨p, ob, ws, rfl, e1, e2, e3⟩ := rd
    cases (show u = Value.ref p from r1)
    have low := low p rfl
    obtain ⟨g0, _, lo, us', rk, o', es, ep, ho, hx', hd', hk, hp, hnn⟩ := (show ObjOk X.prog X.w H st.heap p (.frz ob (.dK (ks.zip ws))) from I.hok p _ (sr.sub _ _ e1))
    cases g0.symm.trans ho
    have lts : ts.length = ks.length := by rw [textNs_len h1, ← e2]; exact (Reps.length e3).symm
    have les : es.size = ks.length := by
      have := dic_len e2 rk hp
      simpa using this
    refine call_repr_slot (by have := c.hu; omega) ⟨ob, g0, hx'.1⟩ PySem.F.slot_dict_repr ?_
    obtain ⟨q, l1, l2, l3⟩ := SzLow.least _ low
    cases q with
    | zero => exact absurd hx'.1 (l2 ob g0).2.2
    | succ q =>
      have hq := l3 q (Nat.lt_succ_self _)
      rw [depthN] at l1 hdp
      refine sz_dict_top (A := X.A.in1) (J := JR g X pins σ F as μ) (g := []) hx'.1 hd' lo (by rw [zipT_len (by rw [keyTs_len hkt, lts]), keyTs_len hkt, les]) (fun s' h => ?_) (fun s' tk h => h.tok tk) (fun i e he => ?_) gd (fun _ _ _ _ h => nomatch h) ⟨F, as, H, .refl, sr, I⟩ (fun s' u hJ => ?_) hz
      · obtain ⟨F', as', H', x', sr', I'⟩ := h
        exact (show ObjOk X.prog X.w H' s'.heap p (.frz ob (.dK (ks.zip ws))) from I'.hok p _ (sr'.sub _ _ (x'.1 _ _ e1))).1
      · have he' : es.toList[i]? = some e := by rw [Array.getElem?_toList]; exact he
        obtain ⟨ky, v', k1, v1, k2, v2⟩ := dic_at e2 rk hp he'
        obtain ⟨t1, t2, t3⟩ := keyTs_at hkt k1
        obtain ⟨d', t', m1, m2, m3, m4⟩ := textNs_at h1 e3 v1
        refine ⟨t1, t', zipT_at t2 m2, fun base hbase st' hst => key_repr k2 t3 hbase hst fun tk => hst.tok tk, fun base hbase st' hst => ?_⟩
        have hr3 : AtA X (j + q + 2) ((X.A.in1).under (.builtin "dict.__repr__" ⟨[.ref p], []⟩)) := by
          have hr4 : Room (j + q + 2 + 1 + 1) X.A := hr.mono (by omega)
          have a1 : AtA X (j + q + 2 + 1) X.A.in1 := ⟨Room.in1 hr4, rfl⟩
          exact AtA.dic1 a1 p
        exact nest_repr c En sr I (sizeOf d' + 1) d' (Nat.lt_succ_self _) t' m3 v' e.val m4 v2 q (fun z ez => l2.2 ob es ep g0 hx'.1 hd' e (List.mem_of_getElem? he') z ez) base hbase ((X.A.in1).under (.builtin "dict.__repr__" ⟨[.ref p], []⟩)) _ (guards_under_guard (A := X.A.in1) (isGuard_dict_repr _) gd) (SzCl.nil.cons (Nat.le_refl _) hq) hr3 pins st' hst
      · obtain ⟨F', as', H', x', sr', I'⟩ := hJ
        exact ⟨_, _, rfl, .str _, H', I', ⟨_, rfl⟩, kk F' as' _ H' x' sr' ra_str⟩
  · exact co_reprK c.K gd c.hu xs s F as μ H vs Q e sr (reps_vrs hx) kk
theorem Ct.callD {id : String} {op : List D → Option S} {e : Expr} {es : List Expr} {x : Str} {p pos : Pos} {ms : List ME} (c : Ct g P w mg base k N sc own cm gb X W) (T : Tb g mg frees globs) (ho : CallOkD g X (.builtin id) op) (hg : glB sc x = true) (hf : frees.contains x = true)
    (hv : bootBuiltins x = some (.builtin id)) (hst : (e :: es).all notStar = true) (ha : SA g X W (e :: es) (mArgs ms)) : SE g X W (.Call (.Name x p) (e :: es) [] pos) (mCallD op ms) :=
  se_callD ho (c.gl hg).1 (by rw [c.hmg]; exact T.fr x hf) hv (c.gl hg).2.2 (c.gl hg).2.1 hst ha
end
theorem mCallD_ap {op : List D → Option S} {ms : List ME} {ρ : En} {μ : Sto} : mCallD op ms ρ μ = andThen (mArgs ms ρ μ) (finD op) := rfl
def finDK (μ : Sto) : Option S → Option R
  | some s => some (.ok s, μ)
  | none => none
theorem finD_ap {op : List D → Option S} {d : D} {μ : Sto} : finD op [.val d] μ = finDK μ (op [d]) := by
  show (match op [d] with
    | some s => (some (Except.ok s, μ) : Option R)
    | none => none) = _
  cases op [d] <;> rfl
theorem finDK_some {s : S} {μ : Sto} : finDK μ (some s) = some (.ok s, μ) := Eq.trans rfl rfl
theorem reprN_lst {sm sn : Nat → Option FnI} {ds : List D} {t : Str} (h : textN sn (.lst ds) = some t) (h1 : t.length ≤ sizeLine) (h2 : depthN (.lst ds) ≤ 60) : bReprN sm sn [.lst ds] = some (.val (.str t)) := by
  show topN (textN sn (.lst ds)) (depthN (.lst ds)) = _
  rw [h]
  exact if_pos ⟨h1, h2⟩
end Sz
set_option Elab.async false
set_option linter.all false
set_option maxRecDepth 100000
set_option maxHeartbeats 4000000
namespace Sz
open PySem PySem.Spec PyProof.Rows L2
end Sz
set_option Elab.async false
set_option linter.all false
set_option maxRecDepth 100000
set_option maxHeartbeats 4000000
namespace Sz
open PySem PySem.Spec PyProof.Rows L2
end Sz
set_option Elab.async false
set_option linter.all false
set_option maxRecDepth 100000
set_option maxHeartbeats 4000000
namespace Sz
open PySem PySem.Spec L2
end Sz
set_option Elab.async false
set_option linter.all false
set_option maxRecDepth 100000
set_option maxHeartbeats 4000000
namespace Sz
open PySem PySem.Spec PyProof.Rows L2
end Sz
set_option Elab.async false
set_option linter.all false
set_option maxRecDepth 100000
set_option maxHeartbeats 4000000
namespace Sz
open PySem PySem.Spec PyProof.Rows L2
end Sz
set_option Elab.async false
set_option linter.all false
set_option maxRecDepth 100000
set_option maxHeartbeats 4000000
namespace Sz
open PySem PySem.Spec PyProof.Rows L2
end Sz
set_option Elab.async false
set_option linter.all false
set_option maxRecDepth 100000
set_option maxHeartbeats 4000000
namespace Sz
open PySem PySem.Spec PyProof.Rows L2
end Sz
set_option Elab.async false
set_option linter.all false
set_option maxRecDepth 100000
set_option maxHeartbeats 4000000
namespace Sz
open PySem PySem.Spec PyProof.Rows L2
end Sz
set_option Elab.async false
set_option linter.all false
set_option maxRecDepth 100000
set_option maxHeartbeats 4000000
namespace Sz
open PySem PySem.Spec PyProof.Rows L2
abbrev KD := List (Key × D)
end Sz
set_option Elab.async false
set_option linter.all false
set_option maxRecDepth 100000
set_option maxHeartbeats 4000000
namespace Sz
open PySem PySem.Spec PyProof.Rows L2
/-- what its __init__ does -/
def spBk (g : G) (c : Nat) (f1 f2 : Str) : Sp := fun vs H Q E => ∃ (a dx : Addr), vs = [.ref a] ∧ H a = some (.ins (g.cad c) dx []) ∧
  ∀ p q, H p = none → H q = none → q ≠ p → Q .non (upd (upd (upd (upd H p (.dK [])) a (.ins (g.cad c) dx [(f1, .ref p)])) q (.lst [])) a (.ins (g.cad c) dx [(f1, .ref p), (f2, .ref q)]))
structure BkC (gb : Bool) (g : G) (P : Program) (w : World) (mg : Str → Option Value) (base : Heap) (c : Nat) (f1 f2 : Str) (k : Nat) (f : Addr) : Prop where
  ok : ∃ fd x, FnG gb P w g.K mg base (CX P w) k f fd [x] (spBk g c f1 f2) ∧ Bnd g.K fd [x] 1 [] []
section
variable {gb : Bool} {g : G} {P : Program} {w : World} {mg : Str → Option Value} {base : Heap} {k c : Nat} {N : List Str} {x sx qual f1 f2 : Str} {params : Arguments} {scope : Scope} {f : Addr} {p1 p2 p3 p4 p5 p6 p7 p8 : Pos}
theorem BkC.of (h : ∃ fd, FunD g.K x qual params [.Assign [.Attribute (.Name sx p1) f1 p2] (.Dict [] [] p3) p4, .Assign [.Attribute (.Name sx p5) f2 p6] (.List [] p7) p8] scope [] [] f fd) (S : FnScope [sx] [sx] scope)
    (hv : visB scope sx = true) (hd : (sx == ("__debug__" : Str)) = false) (hcd : (sx == ("__classdict__" : Str)) = false) (hne : f1 ≠ f2)
    (hcl : Cls g.K (g.cad c)) (hn1 : NoAttr g.K (g.cad c) f1) (hn2 : NoAttr g.K (g.cad c) f2)
    (hB : ∀ fd, FunD g.K x qual params [.Assign [.Attribute (.Name sx p1) f1 p2] (.Dict [] [] p3) p4, .Assign [.Attribute (.Name sx p5) f2 p6] (.List [] p7) p8] scope [] [] f fd → Bnd g.K fd [sx] 1 [] []) : BkC gb g P w mg base c f1 f2 (k + 1) f := by
  obtain ⟨fd, FD⟩ := h
  refine ⟨fd, sx, by_body FD S (fun vs H Q E h => ?_) fun cdv _ A outer s H vs Q E hr hgd hsp => ?_, hB fd FD⟩
  · obtain ⟨a, dx, rfl, _⟩ := h
    rfl
  · obtain ⟨a, dx, rfl, ha, hq⟩ := hsp
    have hvis : Vis (cxOf (CX P w) P w g.K mg base [sx] qual scope f cdv A outer s H E).env.scope sx := by
      show Vis scope sx
      unfold Vis
      unfold visB at hv
      split at hv
      · rename_i e; exact .inl e
      · rename_i e; exact .inr (.inl e)
      · rename_i e; exact .inr (.inr e)
      · cases hv
    refine ⟨_, pss_cons (ps_fld (pe_var (i := 0) rfl hvis hd hcd) pe_dnewK swaps_attr) (pss_cons (ps_fld (pe_var (i := 0) rfl hvis hd hcd) (pe_lst pa_nil) swaps_attr) pss_nil), ?_⟩
    intro p hp
    have npa : a ≠ p := ne_of_none ha hp
    refine ⟨.ref a, rfl, a, _, dx, [], rfl, by rw [upd_ne npa]; exact ha, hcl, hn1, by show (0 : Nat) < 1000; decide, ?_⟩
    refine ⟨by show (0 : Nat) ≤ sizeLine; exact Nat.zero_le _, fun q hq' => ?_⟩
    have nqa : q ≠ a := fun e => by rw [e, upd_same] at hq'; cases hq'
    rw [upd_ne nqa] at hq'
    have nqp : q ≠ p := fun e => by rw [e, upd_same] at hq'; cases hq'
    rw [upd_ne nqp] at hq'
    refine ⟨.ref a, rfl, a, _, dx, [(f1, .ref p)], rfl, by rw [upd_ne (Ne.symm nqa), upd_same]; rfl, hcl, hn2, by show (1 : Nat) < 1000; decide, ?_⟩
    have e2 : putF f2 (.ref q) [(f1, V.ref p)] = [(f1, .ref p), (f2, .ref q)] := by
      show (if f1 = f2 then _ else _) = _
      rw [if_neg hne]
      rfl
    show Q .non (upd _ a (.ins (g.cad c) dx (putF f2 (.ref q) [(f1, V.ref p)])))
    rw [e2]
    exact hq p q hp hq' nqp
end
end Sz
set_option Elab.async false
set_option linter.all false
set_option maxRecDepth 100000
set_option maxHeartbeats 4000000
namespace Sz
open PySem PySem.Spec PyProof.Rows L2
section
variable {ρ : En} {μ : Sto} {o i m : ME} {k : Nat} {kvs : KD} {d e : D} {key : Key} {s1 : S} {r : Option R} {c c0 : Nat} {fs : List (Str × Nat)} {f f1 f2 : Str} {neg : Bool}
theorem toD_v : toD μ (.val d) = some (d, μ) := Eq.trans rfl rfl
end
end Sz
set_option Elab.async false
set_option linter.all false
set_option maxRecDepth 100000
set_option maxHeartbeats 4000000
namespace Sz
open PySem PySem.Spec PyProof.Rows L2
end Sz
set_option Elab.async false
set_option linter.all false
set_option maxRecDepth 100000
set_option maxHeartbeats 4000000
namespace Sz
open PySem PySem.Spec PyProof.Rows L2
end Sz
set_option Elab.async false
set_option linter.all false
set_option maxRecDepth 100000
set_option maxHeartbeats 4000000
namespace Sz
open PySem PySem.Spec PyProof.Rows L2 PySem.W
end Sz
set_option Elab.async false
set_option linter.all false
set_option maxRecDepth 100000
set_option maxHeartbeats 4000000
namespace Sz
open PySem PySem.Spec PyProof.Rows L2 PySem.W
end Sz
set_option Elab.async false
set_option linter.all false
set_option maxRecDepth 100000
set_option maxHeartbeats 4000000
namespace Sz
open PySem PySem.Spec PyProof.Rows L2 PySem.W
end Sz
set_option Elab.async false
set_option linter.all false
set_option maxRecDepth 100000
set_option maxHeartbeats 4000000
namespace Sz
open PySem PySem.Spec PyProof.Rows L2
end Sz
set_option Elab.async false
set_option linter.all false
set_option maxRecDepth 100000
set_option maxHeartbeats 4000000
namespace L2
open PySem PySem.Spec PyProof.Rows
end L2
namespace Sz
open PySem PySem.Spec PyProof.Rows L2
end Sz
set_option Elab.async false
set_option linter.all false
set_option maxRecDepth 100000
set_option maxHeartbeats 4000000
namespace Sz
open PySem PySem.Spec PyProof.Rows L2 PySem.W
end Sz
set_option Elab.async false
set_option linter.all false
set_option maxRecDepth 100000
set_option maxHeartbeats 4000000
namespace PySem.W
open PySem PySem.Calls PyProof.Rows PyProof.V PySem.Spec
end PySem.W
set_option Elab.async false
set_option linter.all false
set_option maxRecDepth 100000
set_option maxHeartbeats 4000000
namespace Sz
open PySem PySem.Spec PyProof.Rows L2
/-- all but dicts -/
def SameD (F F' : Hp) : Prop := ∀ p u, F p = some u → (∀ o ws, u ≠ .frz o (.dK ws)) → F' p = some u
section
variable {g : G} {F F' : Hp}
theorem SameD.tup {K : PySem.W.Frag} {a : Addr} {xs : List V} (e : SameD F F') (h : SqT K F a xs) : SqT K F' a xs := by
  rcases h with (h | ⟨o, h⟩) | h
  · exact .inl (.inl (e _ _ h fun _ _ z => by cases z))
  · exact .inl (.inr ⟨o, e _ _ h fun _ _ z => by cases z⟩)
  · exact .inr h
theorem SameD.lst {K : PySem.W.Frag} {a : Addr} {xs : List V} (e : SameD F F') (h : SqL K F a xs) : SqL K F' a xs := by
  rcases h with (h | ⟨o, h⟩) | h
  · exact .inl (.inl (e _ _ h fun _ _ z => by cases z))
  · exact .inl (.inr ⟨o, e _ _ h fun _ _ z => by cases z⟩)
  · exact .inr h
end
end Sz
set_option Elab.async false
set_option linter.all false
set_option maxRecDepth 100000
set_option maxHeartbeats 4000000
namespace Sz
open PySem PySem.Spec PyProof.Rows L2
end Sz
set_option Elab.async false
set_option linter.all false
set_option maxRecDepth 100000
set_option maxHeartbeats 4000000
namespace Sz
open PySem PySem.Spec PyProof.Rows L2
end Sz
set_option Elab.async false
set_option linter.all false
set_option maxRecDepth 100000
set_option maxHeartbeats 4000000
namespace Sz
open PySem PySem.Spec PyProof.Rows L2
end Sz
set_option Elab.async false
set_option linter.all false
set_option maxRecDepth 100000
set_option maxHeartbeats 4000000
namespace Sz
open PySem PySem.Spec PyProof.Rows L2
/-- what was made, tracked -/
theorem mk_val {X : Cx} {pins : List (Addr × Obj)} {σ : L2.St} {Q : XK} {v : Value} {s' : Shared} (h : MkP X pins σ Q v s') : ∃ (a : Addr) (oe : Obj) (H' : Hp) (cls : Value) (d : Option Addr),
    v = .ref a ∧ Inv X pins σ (upd H' a (exO a oe)) s' ∧ H' a = none ∧ oe.cls = cls ∧ oe.dict = d ∧ (∃ vs, oe.data = .fields vs) ∧ Q cls d H' := by
  obtain ⟨a, oe, vs, sI, H', cls, d, rfl, J, k, hne, ha, hz, hd, h1, na, os, ag, r, q⟩ := h
  refine ⟨a, oe, H', cls, d, rfl, ?_, na, hz.1, hz.2, ⟨vs, hd⟩, q⟩
  obtain ⟨hI, gI, dI, tI, oI⟩ := sI
  obtain ⟨h2, g2, d2, t2, o2⟩ := s'
  have nha : ∀ {b : Addr} {o : Obj}, hI.get? b = some o → b ≠ a := fun {b o} z e => by
    rw [e] at z
    rw [show hI.get? a = none from hne] at z
    cases z
  have U : Un (frs X.stack) [] H' (upd H' a (exO a oe)) hI h2 := {
    keep := fun b o z _ _ _ => k b o z
    slot := fun b o z _ _ _ => ⟨o.slots, k b o z⟩
    free := fun b o z n _ => by rw [upd_ne (nha z)]; exact n
    there := fun b o z _ => ⟨o, k b o z⟩
    tups := fun b xs z => by rw [upd_ne (ne_of_none z na)]; exact z
    frzs := fun b o v z => by rw [upd_ne (ne_of_none z na)]; exact z
    tbls := fun b ps z => ⟨#[], by rw [upd_ne (ne_of_none z na), z]; simp⟩ }
  have hok : HOk X.prog X.w (upd H' a (exO a oe)) h2 := fun b u e => by
    by_cases hb : b = a
    · subst hb
      rw [upd_same] at e
      cases e
      exact ⟨ha, ⟨oe, ha⟩, fun h1 h2 p kk => kk oe p⟩
    · rw [upd_ne hb] at e
      exact (J.hok b u e).stay (fun c v _ z => k c v z) (fun c hc => by rw [upd_ne (ne_of_none hc na)]; exact hc) fun c xs hc => by rw [upd_ne (ne_of_none hc na)]; exact hc
  exact J.call' (ch := []) os U hok ag fun b z => absurd z (by simp)
def mExc0 (c : Nat) : ME := fun _ μ => some (.ok (.val (.exc c [])), μ)
section
variable {g : G} {P : Program} {w : World} {mg : Str → Option Value} {base : Heap} {k : Nat} {N : List Str} {sc : Scope} {own cm gb : Bool} {X : Cx} {W : WX} {frees globs : List Str}
theorem Ct.exc0 {c : Nat} {x m : Str} {j : Nat} {p p2 pos : Pos} (cx : Ct g P w mg base k N sc own cm gb X W) (T : Tb g mg frees globs) (xf : XcF g g.K c) (hg : glB sc x = true) (hf : globs.contains x = true) (hc : g.cad c = He.ga g.K x) :
    SE g X W (.Call (.Name x p) [.Constant (.str m) j p2] [] pos) (mExc0 c) := by
  obtain ⟨g1, g2, g3⟩ := cx.gl hg
  have xf' : XcF g X.K c := cx.K ▸ xf
  obtain ⟨B, newId, initId, bmB, fB, q⟩ := xf'.ok
  have hm : X.mg x = some (.ref (g.cad c)) := by rw [cx.hmg, (T.gl x hf).1, hc]
  refine ⟨fun F as ρ μ σ H Q r μ' h sr er post pins s I => ?_⟩
  cases h
  refine wpAny_mono (pmk_own fB q hm xf'.kp (raises_own xf'.b xf'.t) g1 g2 pins s σ H (fun cls d H' => cls = .ref (g.cad c) ∧ d = none ∧ H' = H) I ⟨rfl, rfl, rfl⟩) (fun v s' hv => ?_) fun _ _ z => z
  obtain ⟨a, oe, H', cls, d, rfl, J, na, e1, e2, e3, rfl, rfl, rfl⟩ := mk_val hv
  obtain ⟨F', x', sr', rep⟩ := caught (c := c) (fs := []) sr ⟨rfl, .inl ⟨rfl, rfl⟩⟩ na e1 e2 e3
  exact ⟨.ref a, _, J, rfl, post F' as (.ref a) _ x' sr' rep⟩
end
section
open Builtin
variable {prog : Program} {w : World} {A : Around} {E : Value → Shared → Prop} {R : Result → Shared → Prop} {hp : Heap} {gs : Array GenState} {dr : Drawn} {tk : Nat} {os : OsState}
variable {nm qn : Str} {C Nn : Addr} {bs bm bmB : List Value} {hdct : Bool} {sn : List Str} {sub : List Value} {ab : Bool} {col : Option Bool} {dd : Option Addr} {k0 k1 k2 k3 k5 : Option Value} {B newId initId : String}
variable {us : List Value} {kw : List (Str × Value)}
theorem chk_newK {M : Model} {Q : Unit → Shared → Prop} (FB : ExcBaseFacts B newId initId bmB) (same : ∀ T : String, bm.contains (.type T) = bmB.contains (.type T)) (hC : hp.get? C = some (excClassObj nm qn C Nn bs bm hdct sn sub ab col dd k0 k1 k2 k3 k5 newId))
    (q : Q () ⟨hp, gs, dr, tk, os⟩) : wpAny M A (checkBuiltinCall newId ⟨.ref C :: us, kw⟩) Q E ⟨hp, gs, dr, tk, os⟩ := by
  have cB : (Value.ref C :: bm).contains (.type B) = true := by rw [List.contains_cons, same, FB.hasB, Bool.or_true]
  have st := FB.noStar
  simp only [checkBuiltinCall, FB.newKind, FB.newSplit, FB.newRow]
  repeat (first | refine wpAny_loadPart_at hC ?_ | (refine wpAny_isSubtype_exc hC ?_; rw [cB]) | refine wpAny_staticBase_exc hC ?_ | refine wpAny_madeBy_exc hC ?_ | simp only [bne_self_eq_false, Bool.false_eq_true, if_false] | wp_step)
  exact q
theorem made_newK (FB : ExcBaseFacts B newId initId bmB) (same : ∀ T : String, bm.contains (.type T) = bmB.contains (.type T)) (hC : hp.get? C = some (excClassObj nm qn C Nn bs bm hdct sn sub ab col dd k0 k1 k2 k3 k5 newId)) (few : us.length ≤ sizeLine)
    (q : R (.ok (.ret (.ref (hp.objs.size + 1)))) ⟨(hp.push (PySem.W.kdv_tup us)).push (PySem.HandSPX.excO C hp.objs.size), gs, dr, tk, os⟩) :
    codeAny (model prog w) A (.builtin newId ⟨.ref C :: us, kw⟩) R ⟨hp, gs, dr, tk, os⟩ := by
  have en := FB.ends
  have cB : (Value.ref C :: bm).contains (.type B) = true := by rw [List.contains_cons, same, FB.hasB, Bool.or_true]
  have cA : (Value.ref C :: bm).contains (.type "AttributeError") = false := by rw [List.contains_cons, same, FB.noAttr]; rfl
  have cN : (Value.ref C :: bm).contains (.type "NameError") = false := by rw [List.contains_cons, same, FB.noName]; rfl
  have hrest := few
  refine codeAny_builtinAt FB.entry ?_
  unfold Builtin.«BaseException.__new__»
  refine PySem.wpAt_bind (show PySem.wpAt _ _ _ (stack >>= _) _ _ _ from ?_)
  refine PySem.wpAt_bind (PySem.wpAt_stack fun _ _ => PySem.wpAt_of_wpAny ?_)
  wp_walk
  refine PySem.wpAt_of_wpAny ?_
  rw [FB.owner]
  repeat (first | with_reducible refine wpAny_madeHere_exc FB.canon hC ?_ | with_reducible refine wpAny_loadPart_at hC ?_ | (with_reducible refine wpAny_isSubtype_exc hC ?_; first | rw [cB] | rw [cA] | rw [cN]) | wp_step)
  show R _ _
  rw [Heap.size_push]
  exact q
theorem type_callK {Q : Fin → Shared → Prop} {fI : Addr} (FB : ExcBaseFacts B newId initId bmB) (same : ∀ T : String, bm.contains (.type T) = bmB.contains (.type T)) (hC : hp.get? C = some (excClassObj nm qn C Nn bs bm hdct sn sub ab col dd k0 k1 k2 k3 k5 newId)) (few : us.length ≤ sizeLine)
    (li : PySem.W.Looks (model prog w) hp (typeLookup (.ref C) "__init__") (some (.ref fI))) (lb : ∀ self, PySem.W.Looks (model prog w) hp (bindSpecial (.ref fI) self) (.ref fI, [self]))
    (q : codeAny (model prog w) A (.call (.ref fI) ⟨.ref (hp.objs.size + 1) :: us, kw⟩) (fun r s' => match r with | .ok (.ret v) => v = .none ∧ Q (.done (.ret (.ref (hp.objs.size + 1)))) s' | .ok _ => False | .error e => E e s') ⟨(hp.push (PySem.W.kdv_tup us)).push (PySem.HandSPX.excO C hp.objs.size), gs, dr, tk, os⟩) :
    wpAny (model prog w) A (Builtin.«type.__call__» ⟨.ref C :: us, kw⟩) Q E ⟨hp, gs, dr, tk, os⟩ := by
  repeat (first | with_reducible refine wpAny_loadPart_at hC ?_ | with_reducible refine wpAny_madeBy_exc hC ?_ | wp_step)
  refine codeAny_call_builtin_code (Code.quiet_builtin _ FB.quiet) (chk_newK FB same hC (made_newK FB same hC few ?_))
  show wpAny _ _ _ _ _ _
  have kk : ∀ b o, hp.get? b = some o → ((hp.push (PySem.W.kdv_tup us)).push (PySem.HandSPX.excO C hp.objs.size)).get? b = some o := fun b o z => Heap.get?_push_of_some _ (Heap.get?_push_of_some _ z)
  have hC2 := kk _ _ hC
  have hE : ((hp.push (PySem.W.kdv_tup us)).push (PySem.HandSPX.excO C hp.objs.size)).get? (hp.objs.size + 1) = some (PySem.HandSPX.excO C hp.objs.size) := by heap_get
  have cC : (Value.ref C :: bm).contains (.ref C) = true := by simp
  have l1 := li.keeps kk
  have l2 := (lb (.ref (hp.objs.size + 1))).keeps kk
  unfold isInstance
  repeat (first | with_reducible refine wpAny_loadPart_at hE ?_ | (with_reducible refine wpAny_isSubtype_exc hC2 ?_; rw [cC]) | wp_step)
  show wpAny _ _ (typeLookup (.ref C) _) _ _ _
  refine l1.at (wpAny_holding (wpAny_bind (l2.at ?_)))
  refine wpAny_bind (wpAny_call (codeAny_mono q fun r s' z => ?_))
  rcases r with e | (v | _ | _ | _) <;> try first | exact z | exact z.elim
  obtain ⟨rfl, y⟩ := z
  first
    | exact wpAny_pure (wpAny_pure y)
    | (wp_walk; exact y)
theorem call_ownK {fI : Addr} (FB : ExcBaseFacts B newId initId bmB) (same : ∀ T : String, bm.contains (.type T) = bmB.contains (.type T)) (hC : hp.get? C = some (excClassObj nm qn C Nn bs bm hdct sn sub ab col dd k0 k1 k2 k3 k5 newId)) (few : us.length ≤ sizeLine)
    (li : PySem.W.Looks (model prog w) hp (typeLookup (.ref C) "__init__") (some (.ref fI))) (lb : ∀ self, PySem.W.Looks (model prog w) hp (bindSpecial (.ref fI) self) (.ref fI, [self]))
    (q : codeAny (model prog w) (A.under (.builtin "type.__call__" ⟨.ref C :: us, kw⟩)) (.call (.ref fI) ⟨.ref (hp.objs.size + 1) :: us, kw⟩) (PySem.W.InitBack (hp.objs.size + 1) R) ⟨(hp.push (PySem.W.kdv_tup us)).push (PySem.HandSPX.excO C hp.objs.size), gs, dr, tk, os⟩) :
    codeAny (model prog w) A (.call (.ref C) ⟨us, kw⟩) R ⟨hp, gs, dr, tk, os⟩ := by
  have t1 := tc_lookup
  have t2 := tc_bind (.ref C)
  have ty : (⟨hp, gs, dr, tk, os⟩ : Shared).TypeIs (.ref C) "type" := ⟨_, hC, rfl⟩
  refine codeAny_of_tree (show wpAny _ _ (callAny (.ref C) _) _ _ _ from ?_)
  repeat (any_goals (first | assumption | with_reducible refine wpAny_loadPart_at hC ?_ | wp_step))
  refine ⟨rfl, codeAny_call_builtin_at (Code.quiet_builtin _ (by decide +kernel)) entry_typeCall (wpAny_check_type_call_sub hC (type_callK FB same hC few li lb ?_))⟩
  refine codeAny_mono q fun r s' z => ?_
  rcases r with e | (v | _ | _ | _) <;> exact z
end
def exArgsK (ps : List Str) (dfl ds : List D) (ks : List Str) (ws : List D) : Option (List D) := match bindG ks ((none : Option D) :: ds.map some) (ws.map some) (dfl.map some) ps.length ps 0 with
  | some (none :: os) => oVals os
  | _ => none
def exIR (c : Nat) (μ : Sto) : Option (List D) → Option R
  | some (f :: fs) => some (.ok (.val (.exc c (f :: fs).reverse)), μ)
  | _ => none
def exID (c : Nat) (ks ps : List Str) (dfl : List D) (μ : Sto) : Option (List D) → Option (List D) → Option R
  | some ds, some ws => exIR c μ (exArgsK ps dfl ds ks ws)
  | _, _ => none
def exIK (c n : Nat) (ks ps : List Str) (dfl : List D) (ss ts : List S) (μ : Sto) : Option R := if ss.length = n ∧ ts.length = ks.length then exID c ks ps dfl μ (dvals ss) (dvals ts) else none
def mExcI (c n : Nat) (ks ps : List Str) (dfl : List D) (ms kms : List ME) : ME := fun ρ μ => andThen (mArgs ms ρ μ) fun ss μ1 => andThen (mArgs kms ρ μ1) fun ts μ2 => exIK c n ks ps dfl ss ts μ2
theorem exIK_some {c n : Nat} {ks ps : List Str} {dfl : List D} {ss ts : List S} {μ : Sto} {q : Except Ex S × Sto} (h : exIK c n ks ps dfl ss ts μ = some q) : ss.length = n ∧ ts.length = ks.length ∧ ∃ ds ws f fs, dvals ss = some ds ∧ dvals ts = some ws ∧ exArgsK ps dfl ds ks ws = some (f :: fs) ∧ q = (.ok (.val (.exc c (f :: fs).reverse)), μ) := by
  unfold exIK at h
  split at h
  · rename_i hl
    refine ⟨hl.1, hl.2, ?_⟩
    cases h1 : dvals ss with
    | none => rw [h1] at h; cases h
    | some ds =>
      cases h2 : dvals ts with
      | none => rw [h1, h2] at h; cases h
      | some ws =>
        rw [h1, h2] at h
        have h : exIR c μ (exArgsK ps dfl ds ks ws) = some q := h
        cases h3 : exArgsK ps dfl ds ks ws with
        | none => rw [h3] at h; cases h
        | some l =>
          rw [h3] at h
          cases l with
          | nil => cases h
          | cons f fs =>
            cases h
            exact ⟨ds, ws, f, fs, rfl, rfl, h3, rfl⟩
  · cases h
section
variable {g : G} {P : Program} {w : World} {mg : Str → Option Value} {base : Heap} {k : Nat} {N : List Str} {sc : Scope} {own cm gb : Bool} {X : Cx} {W : WX} {frees globs : List Str}
theorem Ct.excI {c b n j : Nat} {fl ps ks : List Str} {dfl : List D} {sh : List (Nat × List Str)} {ms kms : List ME} {x : Str} {es : List Expr} {kws : List Keyword} {p pos : Pos} (cx : Ct g P w mg base k N sc own true gb X W) (T : Tb g mg frees globs) (xi : ExI g P w mg base c b fl ps dfl j sh)
    (hj : Nat.ble (j + 1) k = true) (hnl : Nat.ble n 1000 = true) (hs : sh.contains (n + 1, ks) = true) (hg : glB sc x = true) (hf : globs.contains x = true) (hc : g.cad c = He.ga g.K x) (hks : kwNames kws = some ks) (ha : SAs g X W es ms) (hkw : SK g X W kws (mArgs kms)) :
    SE g X W (.Call (.Name x p) es kws pos) (mExcI c n ks ps dfl ms kms) := by
  obtain ⟨g1, g2, g3⟩ := cx.gl hg
  have hm : X.mg x = some (.ref (g.cad c)) := by rw [cx.hmg, (T.gl x hf).1, hc]
  have oe : OeC X.K (g.cad c) b := by rw [cx.hK]; exact xi.oe
  obtain ⟨fI, fd, dvs, hi, hti, ok, bnd, rd⟩ := xi.ini
  have bnd := bnd (n + 1, ks) (List.contains_iff_mem.mp hs)
  have hroom : Room (j + 1) X.A := (cx.room rfl).mono (Nat.le_of_ble_eq_true hj)
  have e1 := cx.hP
  have e2 := cx.hw
  have e3 := cx.hK
  have e4 := cx.hmg
  have e5 := cx.hb
  subst e1 e2 e4 e5
  rw [← e3] at hi hti ok bnd
  refine ⟨fun F as ρ μ σ H Q r μ' h sr er post pins s I => ?_⟩
  refine wpAny_Call_Name_kw (ld_glob I g1 hm ?_ g2)
  refine callW (first := []) (f := exIK c n ks ps dfl) I oe.kC hks ha hkw h sr er (fun x e => by subst e; exact post) fun ss ts μ2 F1 as1 vs zs H1 h2 x1 sr1 er1 rs1 rz1 st us ws I1 ru rz => ?_
  obtain ⟨hn, hkn, ds, wds, f, fs, hdv, hdw, hex, eq⟩ := exIK_some h2
  cases eq
  have rds : Reps g F1 ds vs := dv_reps rs1 hdv
  have rws : Reps g F1 wds zs := dv_reps rz1 hdw
  have lvs : vs.length = n := by rw [← hn]; exact (Paired.length rs1).symm
  have lzs : zs.length = ks.length := by rw [← hkn]; exact (Paired.length rz1).symm
  obtain ⟨hp, gn, dr, tk, os⟩ := st
  have hsz : hp.objs.size ≤ hp.objs.size + 1 := Nat.le_succ _
  have hn1 : H1 (hp.objs.size + 1) = none := I1.hok.fresh hsz
  have kk : ∀ b o, hp.get? b = some o → ((hp.push (PySem.W.kdv_tup us)).push (PySem.HandSPX.excO (g.cad c) hp.objs.size)).get? b = some o := fun b o e => Heap.get?_push_of_some _ (Heap.get?_push_of_some _ e)
  have hget : ((hp.push (PySem.W.kdv_tup us)).push (PySem.HandSPX.excO (g.cad c) hp.objs.size)).get? (hp.objs.size + 1) = some (PySem.HandSPX.excO (g.cad c) hp.objs.size) := by heap_get
  have I2 : Inv X pins σ (upd H1 (hp.objs.size + 1) (exo (hp.objs.size + 1) (g.cad c) none)) ⟨(hp.push (PySem.W.kdv_tup us)).push (PySem.HandSPX.excO (g.cad c) hp.objs.size), gn, dr, tk, os⟩ :=
    I1.laid (t' := tk) (a := hp.objs.size + 1) (o := exo (hp.objs.size + 1) (g.cad c) none) (h' := (hp.push (PySem.W.kdv_tup us)).push (PySem.HandSPX.excO (g.cad c) hp.objs.size)) kk hsz (exo_ok hget)
  obtain ⟨B, FB⟩ := base_ini b
  obtain ⟨nm, N', qn, bs', bm, hdct, sn, sub, ab, col, dd, k0, k1, k2, k3, k5, hC, hT⟩ := PySem.W.excInit_of I1.kIn oe.ini
  obtain ⟨dsv, rdv, hb⟩ := bnd.to
  unfold exArgsK at hex
  split at hex
  · rename_i os' hbg
    have pself : Paired (RN g F1 (hp.objs.size + 1)) ((none : Option D) :: ds.map some) (V.ref (hp.objs.size + 1) :: vs) := .cons rfl (rn_some rds)
    obtain ⟨bs, eb, pb⟩ := bindG_ex pself (rn_some (a := hp.objs.size + 1) rws) (rn_some (a := hp.objs.size + 1) (rd F1)) hbg
    obtain ⟨bv, ebv, hbt⟩ := hb _ (Value.ref (hp.objs.size + 1) :: us) ws I2.kIn (by rw [List.length_cons, ← ru.length, lvs]) (by rw [← rz.length, lzs])
    have rv1 : Vals (V.ref (hp.objs.size + 1) :: vs) (Value.ref (hp.objs.size + 1) :: us) := .cons rfl ru
    have r2 : Vals bs bv := bindG_rel (ks := ks) rv1 rz rdv eb ebv
    have lbs : bs.length = ps.length := bindG_len eb
    cases pb with
    | @cons _ v0 _ ys p1 p2 =>
      obtain rfl : v0 = V.ref (hp.objs.size + 1) := p1
      have rfs : Reps g F1 (f :: fs) ys := rn_back p2 hex
      have lys : ys.length = fl.length := by
        have z := lbs
        rw [List.length_cons, xi.np] at z
        omega
      have hus : us.length ≤ sizeLine := by
        rw [← Paired.length ru, lvs, sizeLine_eq]
        have := Nat.le_of_ble_eq_true hnl
        omega
      refine wpAny_call (call_ownK (kw := ks.zip ws) FB hT hC hus (PySem.W.looks_findIn I1.kIn hi) (fun self => PySem.W.bind_fn I1.kIn self hti)
        (codeAny_mono (ok.go _ X.stack _ _ ⟨Value.ref (hp.objs.size + 1) :: us, ks.zip ws⟩ bv _ (fun v H2 => v = .non ∧ ∃ dx, H1 dx = none ∧ dx ≠ hp.objs.size + 1 ∧ H2 = upd (upd (upd H1 (hp.objs.size + 1) (exo (hp.objs.size + 1) (g.cad c) none)) dx (exd dx (fl.zip ys).reverse)) (hp.objs.size + 1) (exo (hp.objs.size + 1) (g.cad c) (some dx))) (fun _ _ _ => False) (hroom.make (g.cad c) us (ks.zip ws)) (fun z => by cases z) (I2.env0.make (g.cad c) us (ks.zip ws)) hbt r2 ?_) fun r s' hq' => ?_))
      · refine ⟨hp.objs.size + 1, ys, rfl, lys, upd_same, fun dx n1 n2 => ⟨rfl, dx, ?_, n2, rfl⟩⟩
        rw [upd_ne n2] at n1
        exact n1
      · cases r with
        | error er' =>
          obtain ⟨_, _, _, _, _, _, _, _, _, _, _, _, z⟩ := hq'
          exact z.elim
        | ok fl2 =>
          cases fl2 with
          | next => exact False.elim hq'
          | brk => exact False.elim hq'
          | cont => exact False.elim hq'
          | ret u =>
            obtain ⟨v, H2, os2, bare2, un2, hok2, rv, ev, dx, nd, ne, eH⟩ := hq'
            subst ev
            subst eH
            obtain ⟨h2, gn2, dr2, t2, os''⟩ := s'
            refine ⟨rv, ?_⟩
            have mk := mk_end (Q := fun cls d H' => cls = .ref (g.cad c) ∧ d = some dx ∧ H' = upd H1 dx (.xd (fl.zip ys).reverse)) (d2 := dr2) (t2 := t2) (d := dx) (fs := (fl.zip ys).reverse) (raises_own oe.exC oe.tyC) I1 hsz kk un2 hok2 os2 bare2 upd_same (by rw [upd_ne ne, upd_same]) nd ⟨rfl, rfl, upd_made ne hn1⟩
            obtain ⟨a, ob, H', cls, d, ea, J, na, q1, q2, q3, rfl, rfl, rfl⟩ := mk_val mk
            obtain ⟨sr3, f3, n3⟩ := sr1.loose (o := .xd (fl.zip ys).reverse) nd
            obtain ⟨F', x', sr', rep⟩ := caught (c := c) (fs := (f :: fs).reverse) sr3 ⟨rfl, .inr ⟨dx, ys.reverse, by simp, rfl, by rw [upd_same, xi.flc, zip_rev lys.symm], by rw [xi.flc, List.length_reverse, List.length_reverse, lys], reps_rev rfs⟩⟩ na q1 q2 q3
            exact ⟨.ref a, _, J, ea, post F' as1 (.ref a) _ (x1.trans x') sr' rep⟩
  · cases hex
end
def noSp : Nat → Option FnI := fun _ => none
theorem Ct.reprP {g : G} {P : Program} {w : World} {mg : Str → Option Value} {base : Heap} {k : Nat} {N : List Str} {sc : Scope} {own gb : Bool} {X : Cx} {W : WX} (c : Ct g P w mg base k N sc own true gb X W) (gd : X.A.guards = some []) (hj : Nat.ble 66 k = true) : CallOkD g X (.builtin "repr") (bReprN noSp noSp) :=
  c.reprN (gc := false) (i := 0) (j := 0) ⟨fun _ _ h => by cases h⟩ ⟨fun _ _ h => by cases h⟩ (by cases gb <;> rfl) gd (Nat.ble_eq_true_of_le (Nat.le_trans (by decide) (Nat.le_of_ble_eq_true hj))) hj
end Sz
set_option linter.all false
set_option maxRecDepth 100000
namespace Sz
open PySem PySem.Spec L2
def ev := And.intro @mVar_ap (And.intro @slotM_some (And.intro @mK_ap (And.intro @andThen_ok (And.intro @andThen_if (And.intro @exThen_ok (And.intro @exThen_if (And.intro @vw_val (And.intro @vw_fr (And.intro @vw_cell (And.intro @cellV_lst (And.intro @cellV_frz (And.intro @rt_val (And.intro @rt_fr (And.intro @rt_cell (And.intro @fin2_ap (And.intro @fin2K_some (And.intro @opK_some (And.intro @fin1_ap (And.intro @op1K_some (And.intro @mOp2_ap (And.intro @mOp1_ap (And.intro @add_ii (And.intro @neg_i (And.intro @lt_ii (And.intro @le_ii (And.intro @gt_ii (And.intro @ge_ii (And.intro @eq_ii (And.intro @ne_ii (And.intro @ix_lst (And.intro @Sz.ix_tup (And.intro @ix_scr (And.intro @omap_some (And.intro @atI0 (And.intro @atI1 (And.intro @atI2 (And.intro @bl?_bl (And.intro @tBl_ap (And.intro @tBlK_some (And.intro @tNotM_ap (And.intro @tOrM_ap (And.intro @tTrue_ap (And.intro @mOr_ap (And.intro @orK_some (And.intro @mArgs_nil (And.intro @mArgs_cons (And.intro @mOwns_nil (And.intro @mOwns_cons (And.intro @mList_ap (And.intro @mTup_ap (And.intro @mCallB_ap (And.intro @finL1 (And.intro @finL2 (And.intro @finL3 (And.intro @finL4 (And.intro @finL5 (And.intro @finL6 (And.intro @finL7 (And.intro @finL8 (And.intro @finL9 (And.intro @finL10 (And.intro @finL11 (And.intro @finL12 (And.intro @finL13 (And.intro @finL14 (And.intro @finL15 (And.intro @finL16 (And.intro @finT1 (And.intro @finT2 (And.intro @finT3 (And.intro @finT4 (And.intro @finT5 (And.intro @finT6 (And.intro @finT7 (And.intro @finT8 (And.intro @vwK_some (And.intro @vws_nil (And.intro @vws_cons (And.intro @opsK_some (And.intro @finB_ap (And.intro @len_scr (And.intro @len_lst (And.intro @len_tup (And.intro @min_ii (And.intro @int_b (And.intro @int_i (And.intro @seqK_nx (And.intro @seqK_rt (And.intro @seqK_ex (And.intro @seqK_bk (And.intro @seqK_ct (And.intro @seqK_if (And.intro @sSeq_ap (And.intro @sNil_ap (And.intro @sRet_ap (And.intro @sIf_ap (And.intro @sExpr_ap (And.intro @nxK_some (And.intro @sAsg_ap (And.intro @gNm_ap (And.intro @own_false (And.intro @own_val (And.intro @own_cell (And.intro @own_fr (And.intro @sPar2_ap (And.intro @sPar3_ap (And.intro @par2K_ap (And.intro @par3K_ap (And.intro @gVals_nil (And.intro @gVK_some (And.intro @gVals_cons (And.intro @gTu_tup (And.intro @gTu_lst (And.intro @gTu_fr (And.intro @finF_nx (And.intro @finF_ex (And.intro @finF_rt (And.intro @finR_val (And.intro @finR_fr (And.intro @finF_if (And.intro @mCallF_ap (And.intro @mAttr_ap (And.intro @finA_obj (And.intro @ite_true' (And.intro @ite_false' (And.intro @ite_T (And.intro @ite_F (And.intro @sFor_ap (And.intro @iVal_ap (And.intro @finI_lst (And.intro @finI_fr (And.intro @finI_tup (And.intro @mLm_ap (And.intro @lmK_cell (And.intro @isLst_lst (And.intro @finLm0 (And.intro @finLm1 (And.intro @finLm2 (And.intro @lm3K_lst (And.intro @lm4K_some (And.intro @get_end (And.intro @set_end (And.intro @eq_bb (And.intro @mChain_ap (And.intro @chK_some (And.intro @andThen_err (And.intro @exThen_err (And.intro @mDicK_ap (And.intro @own_pot (And.intro @mAttrX_ap (And.intro @atXK_exc (And.intro @mCallD_ap (And.intro @finD_ap (And.intro @finDK_some (@toD_v)))))))))))))))))))))))))))))))))))))))))))))))))))))))))))))))))))))))))))))))))))))))))))))))))))))))))))))))))))))))))))))))))))))))))))))))))))))))))))
end Sz
set_option Elab.async false
set_option linter.all false
set_option maxRecDepth 100000
set_option maxHeartbeats 4000000
namespace Law
open PySem PySem.Spec L2 Sz
noncomputable def c_l_hand_of : MS := sSeq (sAsg (gNm 2 false) (mK (.int 0))) (sSeq (sIf (tBl (mOp2 dLt (mVar 1) (mCallB bLen [mVar 0]))) (sSeq (sAsg (gNm 2 false) (mOp2 dIx (mVar 0) (mVar 1))) sNil) sNil) (sSeq (sAsg (gNm 3 false) (mOp2 dMod (mOp2 dAdd (mOp2 dAdd (mOp2 dMod (mVar 2) (mK (.int 2305843009213693951))) (mOp2 dMul (mK (.int 7919)) (mVar 1))) (mK (.int 3))) (mK (.int 2305843009213693951)))) (sSeq (sRet (mList [mOp2 dMul (mVar 2) (mCallB bInt [mOp2 dGe (mVar 2) (mOp2 dPow (mK (.int 10)) (mK (.int 18)))]), mVar 3, mK (.int 0)])) sNil)))
noncomputable def fi_l_hand_of : FnI := ⟨["_law_script", "_law_k"], ([] : List D), fnSem 4 c_l_hand_of⟩
noncomputable def c_l_take : MS := sSeq (sIf (tBl (mOp2 dGt (mOp2 dIx (mVar 0) (mK (.int 0))) (mK (.int 0)))) (sSeq (sAsg (gNm 2 false) (mOp2 dMod (mOp2 dIx (mVar 0) (mK (.int 0))) (mVar 1))) (sSeq (sAsg (gSubM (mVar 0) (mK (.int 0))) (mOp2 dFdiv (mOp2 dIx (mVar 0) (mK (.int 0))) (mVar 1))) (sSeq (sRet (mVar 2)) sNil))) sNil) (sSeq (sAsg (gSubM (mVar 0) (mK (.int 2))) (mOp2 dAdd (mOp2 dIx (mVar 0) (mK (.int 2))) (mK (.int 1)))) (sSeq (sAsg (gNm 3 false) (mOp2 dMod (mOp2 dPow (mOp2 dAdd (mOp2 dAdd (mOp2 dIx (mVar 0) (mK (.int 1))) (mOp2 dMul (mOp2 dMul (mK (.int 65537)) (mOp2 dIx (mVar 0) (mK (.int 2)))) (mOp2 dIx (mVar 0) (mK (.int 2))))) (mK (.int 11))) (mK (.int 3))) (mK (.int 2305843009213693921)))) (sSeq (sAsg (gNm 3 false) (mOp2 dMod (mOp2 dMul (mVar 3) (mOp2 dAdd (mOp2 dMod (mVar 3) (mK (.int 1000003))) (mOp2 dMul (mK (.int 99991)) (mOp2 dIx (mVar 0) (mK (.int 2)))))) (mK (.int 2305843009213693907)))) (sSeq (sRet (mOp2 dMod (mOp2 dAdd (mOp2 dFdiv (mVar 3) (mK (.int 97))) (mOp2 dFdiv (mVar 3) (mK (.int 1000033)))) (mVar 1))) sNil))))
noncomputable def fi_l_take : FnI := ⟨["_law_hand", "_law_many"], ([] : List D), fnSem 4 c_l_take⟩
noncomputable def c_l_thing : MS := sSeq (sAsg (gNm 1 false) (mList [mK .non, mK (.bl true), mK (.int 0), mK (.int 7), mOp1 dNeg (mK (.int 1)), mOp2 dPow (mK (.int 10)) (mK (.int 30)), mK (.str ""), mK (.str "land"), mK (.str "a b"), mTup [mK (.int 1), mK (.int 2)], mTup [], mList [mK (.int 1)], mDicK [] [], mTup [mK .non, mK (.str "x")]])) (sSeq (sRet (mOp2 dIx (mVar 1) (mCallF fi_l_take 2 [] [mVar 0, mK (.int 14)] []))) sNil)
noncomputable def fi_l_thing : FnI := ⟨["_law_hand"], ([] : List D), fnSem 2 c_l_thing⟩
noncomputable def c_l_own : MS := sSeq (sAsg (gNm 1 false) (mList [mCallB (bIsiY (subY tX tXi) (tyY tX tXi) (bIsi nKit nKit subK)) [mVar 0, mK (.cls 0)], mCallB (bIsiY (subY tX tXi) (tyY tX tXi) (bIsi nKit nKit subK)) [mVar 0, mK (.cls 1)], mCallB (bIsiY (subY tX tXi) (tyY tX tXi) (bIsi nKit nKit subK)) [mVar 0, mK (.cls 2)], mCallB (bIsiY (subY tX tXi) (tyY tX tXi) (bIsi nKit nKit subK)) [mVar 0, mK (.cls 3)]])) (sSeq (sAsg (gNm 1 false) (mOp2 dAdd (mVar 1) (mList [mCallB (bIsiY (subY tX tXi) (tyY tX tXi) (bIsi nKit nKit subK)) [mVar 0, mK (.cls 4)], mCallB (bIsiY (subY tX tXi) (tyY tX tXi) (bIsi nKit nKit subK)) [mVar 0, mK (.cls 5)], mCallB (bIsiY (subY tX tXi) (tyY tX tXi) (bIsi nKit nKit subK)) [mVar 0, mK (.cls 6)], mCallB (bIsiY (subY tX tXi) (tyY tX tXi) (bIsi nKit nKit subK)) [mVar 0, mK (.cls 7)]]))) (sSeq (sRet (mOp2 dAdd (mVar 1) (mList [mCallB (bIsiY (subY tX tXi) (tyY tX tXi) (bIsi nKit nKit subK)) [mVar 0, mK (.cls 8)], mCallB (bIsiY (subY tX tXi) (tyY tX tXi) (bIsi nKit nKit subK)) [mVar 0, mK (.cls 9)], mCallB (bIsiY (subY tX tXi) (tyY tX tXi) (bIsi nKit nKit subK)) [mVar 0, mK (.cls 10)]]))) sNil))
noncomputable def fi_l_own : FnI := ⟨["_law_e"], ([] : List D), fnSem 2 c_l_own⟩
noncomputable def c_l_families : MS := sSeq (sAsg (gNm 1 false) (mList [mCallB (bIsiY (subY tX tXi) (tyY tX tXi) (bIsi nKit nKit subK)) [mVar 0, mK (.cls 11)], mCallB (bIsiY (subY tX tXi) (tyY tX tXi) (bIsi nKit nKit subK)) [mVar 0, mK (.ty "ValueError")], mCallB (bIsiY (subY tX tXi) (tyY tX tXi) (bIsi nKit nKit subK)) [mVar 0, mK (.cls 12)]])) (sSeq (sRet (mOp2 dAdd (mVar 1) (mList [mCallB (bIsiY (subY tX tXi) (tyY tX tXi) (bIsi nKit nKit subK)) [mVar 0, mK (.ty "LookupError")], mCallB (bIsiY (subY tX tXi) (tyY tX tXi) (bIsi nKit nKit subK)) [mVar 0, mK (.ty "ZeroDivisionError")], mCallB (bIsiY (subY tX tXi) (tyY tX tXi) (bIsi nKit nKit subK)) [mVar 0, mK (.ty "IndexError")]]))) sNil)
noncomputable def fi_l_families : FnI := ⟨["_law_e"], ([] : List D), fnSem 2 c_l_families⟩
noncomputable def c_l_kinds_right_b1 : MS := sSeq (sIf (tBl (mOp2 dNe (mCallF fi_l_own 1 [] [mVar 2] []) (mComp (iRange1 (mK (.int 11))) (gNm 3 false) tTrue (mOp2 dEq (mVar 1) (mVar 3)) [3]))) (sSeq (sRet (mK (.bl false))) sNil) sNil) (sSeq (sAsg (gNm 4 false) (mList [mOp2 dLt (mVar 1) (mK (.int 6)), mOp2 dLt (mVar 1) (mK (.int 6)), mChain dLe dLt (mK (.int 6)) (mVar 1) (mK (.int 9)), mOr (mChain dLe dLt (mK (.int 6)) (mVar 1) (mK (.int 9))) (mOp2 dEq (mVar 1) (mK (.int 10))), mOp2 dEq (mVar 1) (mK (.int 9)), mOp2 dEq (mVar 1) (mK (.int 10))])) (sSeq (sIf (tBl (mOp2 dNe (mCallF fi_l_families 1 [] [mVar 2] []) (mVar 4))) (sSeq (sRet (mK (.bl false))) sNil) sNil) sNil))
noncomputable def c_l_kinds_right : MS := sSeq (sFor (iEnum2 (mVar 0)) (gTu [gNm 1 false, gNm 2 false]) c_l_kinds_right_b1) (sSeq (sRet (mK (.bl true))) sNil)
noncomputable def fi_l_kinds_right : FnI := ⟨["_law_made"], ([] : List D), fnSem 5 c_l_kinds_right⟩
noncomputable def c_l_values_right : MS := sSeq (sPar3 1 2 3 [(false, mCallF fi_l_thing 1 [] [mVar 0] []), (false, mCallF fi_l_thing 1 [] [mVar 0] []), (false, mCallF fi_l_thing 1 [] [mVar 0] [])]) (sSeq (sPar2 4 5 [(false, mCallF fi_l_take 2 [] [mVar 0, mOp2 dPow (mK (.int 10)) (mK (.int 6))] []), (false, mCallF fi_l_take 2 [] [mVar 0, mK (.int 9)] [])]) (sSeq (sPar2 6 7 [(false, mList [mExcI 4 1 [] ["self", "row"] ([] : List D) [mVar 4] [], mExcI 4 0 ["row"] ["self", "row"] ([] : List D) [] [mVar 5]]), (true, mList [mExcI 5 1 [] ["self", "row", "why"] ([.str "form"] : List D) [mVar 4] [], mExcI 5 2 [] ["self", "row", "why"] ([.str "form"] : List D) [mVar 5, mK (.str "slip")] [], mExcI 5 0 ["why", "row"] ["self", "row", "why"] ([.str "form"] : List D) [] [mK (.str "span"), mVar 4]])]) (sSeq (sExpr (mLm lApp (mVar 7) [mExcI 5 0 ["row"] ["self", "row", "why"] ([.str "form"] : List D) [] [mVar 5]])) (sSeq (sPar3 8 9 10 [(false, mList [mExcI 6 1 [] ["self", "number"] ([] : List D) [mVar 1] [], mExcI 6 0 ["number"] ["self", "number"] ([] : List D) [] [mVar 2]]), (false, mList [mExcI 7 1 [] ["self", "name"] ([] : List D) [mVar 2] [], mExcI 7 0 ["name"] ["self", "name"] ([] : List D) [] [mVar 3]]), (true, mList [mExcI 8 1 [] ["self", "name"] ([] : List D) [mVar 3] []])]) (sSeq (sExpr (mLm lApp (mVar 10) [mExcI 8 0 ["name"] ["self", "name"] ([] : List D) [] [mVar 1]])) (sSeq (sAsg (gNm 11 false) (mList [mComp (iVal (mVar 6)) (gNm 12 false) tTrue (mAttrX (xflOf tXi) tFls "row" (mVar 12)) [12], mComp (iVal (mVar 7)) (gNm 12 false) tTrue (mAttrX (xflOf tXi) tFls "row" (mVar 12)) [12], mComp (iVal (mVar 7)) (gNm 12 false) tTrue (mAttrX (xflOf tXi) tFls "why" (mVar 12)) [12], mComp (iVal (mVar 8)) (gNm 12 false) tTrue (mAttrX (xflOf tXi) tFls "number" (mVar 12)) [12]])) (sSeq (sAsg (gNm 11 false) (mOp2 dAdd (mVar 11) (mList [mComp (iVal (mVar 9)) (gNm 12 false) tTrue (mAttrX (xflOf tXi) tFls "name" (mVar 12)) [12], mComp (iVal (mVar 10)) (gNm 12 false) tTrue (mAttrX (xflOf tXi) tFls "name" (mVar 12)) [12]]))) (sSeq (sAsg (gNm 13 false) (mList [mList [mVar 4, mVar 5], mList [mVar 4, mVar 5, mVar 4, mVar 5], mList [mK (.str "form"), mK (.str "slip"), mK (.str "span"), mK (.str "form")], mList [mVar 1, mVar 2], mList [mVar 2, mVar 3]])) (sSeq (sRet (mOp2 dEq (mCallD (bReprN noSp noSp) [mVar 11]) (mCallD (bReprN noSp noSp) [mOp2 dAdd (mVar 13) (mList [mList [mVar 3, mVar 1]])]))) sNil)))))))))
noncomputable def fi_l_values_right : FnI := ⟨["_law_hand"], ([] : List D), fnSem 14 c_l_values_right⟩
noncomputable def c_law_b1 : MS := sSeq (sAsg (gNm 2 true) (mCallF fi_l_hand_of 2 [] [mVar 0, mVar 1] [])) (sSeq (sAsg (gNm 3 false) (mList [mExc0 0, mExc0 1, mExc0 2, mExc0 3, mExcI 4 1 [] ["self", "row"] ([] : List D) [mCallF fi_l_take 2 [] [mVar 2, mK (.int 9)] []] [], mExcI 5 1 [] ["self", "row", "why"] ([.str "form"] : List D) [mK (.int 3)] []])) (sSeq (sAsg (gNm 3 false) (mOp2 dAdd (mVar 3) (mList [mExcI 6 1 [] ["self", "number"] ([] : List D) [mCallF fi_l_thing 1 [] [mVar 2] []] [], mExcI 7 1 [] ["self", "name"] ([] : List D) [mCallF fi_l_thing 1 [] [mVar 2] []] [], mExcI 8 1 [] ["self", "name"] ([] : List D) [mK (.str "a")] []]))) (sSeq (sAsg (gNm 3 false) (mOp2 dAdd (mVar 3) (mList [mExc0 9, mExc0 10]))) (sSeq (sIf (tOrM (tNotM (tBl (mCallF fi_l_kinds_right 1 [] [mVar 3] []))) (tNotM (tBl (mCallF fi_l_values_right 1 [] [mVar 2] [])))) (sSeq (sRet (mK (.bl false))) sNil) sNil) (sSeq (sIf (tBl (mOp2 dNe (mCallF fi_l_families 1 [] [mExc0 11] []) (mList [mK (.bl true), mK (.bl true), mK (.bl false), mK (.bl false), mK (.bl false), mK (.bl false)]))) (sSeq (sRet (mK (.bl false))) sNil) sNil) (sSeq (sIf (tBl (mOp2 dNe (mCallF fi_l_families 1 [] [mExc0 12] []) (mList [mK (.bl false), mK (.bl false), mK (.bl true), mK (.bl true), mK (.bl false), mK (.bl false)]))) (sSeq (sRet (mK (.bl false))) sNil) sNil) sNil))))))
noncomputable def c_law : MS := sSeq (sFor (iRange1 (mOp2 dAdd (mK (.int 2)) (mCallB bMin [mK (.int 6), mCallB bLen [mVar 0]]))) (gNm 1 false) c_law_b1) (sSeq (sRet (mK (.bl true))) sNil)
noncomputable def fi_law : FnI := ⟨["_law_script"], ([] : List D), fnSem 4 c_law⟩
theorem sem_l_thing {x0 : S} {μ : Sto} : fi_l_thing.sem [x0] μ = finF μ.length (c_l_thing [some x0, none] μ) := (congrFun (congrFun (show fi_l_thing.sem = fnSem 2 c_l_thing from rfl) _) _).trans fnS_1_1
theorem cl_l_thing_1 {x0 : S} {μ : Sto} : callF fi_l_thing 1 [] [x0] [] μ = fi_l_thing.sem [x0] μ := callF_eq rfl rfl rfl
theorem sem_l_own {x0 : S} {μ : Sto} : fi_l_own.sem [x0] μ = finF μ.length (c_l_own [some x0, none] μ) := (congrFun (congrFun (show fi_l_own.sem = fnSem 2 c_l_own from rfl) _) _).trans fnS_1_1
theorem cl_l_own_1 {x0 : S} {μ : Sto} : callF fi_l_own 1 [] [x0] [] μ = fi_l_own.sem [x0] μ := callF_eq rfl rfl rfl
theorem sem_l_families {x0 : S} {μ : Sto} : fi_l_families.sem [x0] μ = finF μ.length (c_l_families [some x0, none] μ) := (congrFun (congrFun (show fi_l_families.sem = fnSem 2 c_l_families from rfl) _) _).trans fnS_1_1
theorem cl_l_families_1 {x0 : S} {μ : Sto} : callF fi_l_families 1 [] [x0] [] μ = fi_l_families.sem [x0] μ := callF_eq rfl rfl rfl
theorem sem_l_kinds_right {x0 : S} {μ : Sto} : fi_l_kinds_right.sem [x0] μ = finF μ.length (c_l_kinds_right [some x0, none, none, none, none] μ) := (congrFun (congrFun (show fi_l_kinds_right.sem = fnSem 5 c_l_kinds_right from rfl) _) _).trans fnS_1_4
theorem cl_l_kinds_right_1 {x0 : S} {μ : Sto} : callF fi_l_kinds_right 1 [] [x0] [] μ = fi_l_kinds_right.sem [x0] μ := callF_eq rfl rfl rfl
theorem sem_l_values_right {x0 : S} {μ : Sto} : fi_l_values_right.sem [x0] μ = finF μ.length (c_l_values_right [some x0, none, none, none, none, none, none, none, none, none, none, none, none, none] μ) := (congrFun (congrFun (show fi_l_values_right.sem = fnSem 14 c_l_values_right from rfl) _) _).trans fnS_1_13
theorem cl_l_values_right_1 {x0 : S} {μ : Sto} : callF fi_l_values_right 1 [] [x0] [] μ = fi_l_values_right.sem [x0] μ := callF_eq rfl rfl rfl
theorem sem_law {x0 : S} {μ : Sto} : fi_law.sem [x0] μ = finF μ.length (c_law [some x0, none, none, none] μ) := (congrFun (congrFun (show fi_law.sem = fnSem 4 c_law from rfl) _) _).trans fnS_1_3
end Law
set_option Elab.async false
set_option linter.all false
set_option maxRecDepth 100000
set_option maxHeartbeats 4000000
namespace Law
open PySem PySem.Spec L2 Sz
abbrev Says (K : PySem.W.Frag) : Prop := SaysZ tChk (faOf tFrees tGlobs tRest) tDefs K
abbrev gq (K : PySem.W.Frag) : G := gOf tCls tFlsX K tFns
abbrev TX (K : PySem.W.Frag) (mg : Str → Option Value) (w : World) : Prop := TbX (gq K) mg w tFrees tGlobs tCis tCss tTabs tFns tTps
theorem no_row {K : PySem.W.Frag} (S : Says K) : ∀ c, c < tFls.length → NoAttr (gq K).K ((gq K).cad c) "row"
  | n + 0, h => absurd (show n + 0 < 0 from h) (by omega)
theorem no_why {K : PySem.W.Frag} (S : Says K) : ∀ c, c < tFls.length → NoAttr (gq K).K ((gq K).cad c) "why"
  | n + 0, h => absurd (show n + 0 < 0 from h) (by omega)
theorem no_number {K : PySem.W.Frag} (S : Says K) : ∀ c, c < tFls.length → NoAttr (gq K).K ((gq K).cad c) "number"
  | n + 0, h => absurd (show n + 0 < 0 from h) (by omega)
theorem no_name {K : PySem.W.Frag} (S : Says K) : ∀ c, c < tFls.length → NoAttr (gq K).K ((gq K).cad c) "name"
  | n + 0, h => absurd (show n + 0 < 0 from h) (by omega)
theorem cls_all {K : PySem.W.Frag} (S : Says K) : ∀ c, c < tFls.length → Cls (gq K).K ((gq K).cad c)
  | n + 0, h => absurd (show n + 0 < 0 from h) (by omega)
theorem no_all {K : PySem.W.Frag} (S : Says K) : ∀ (c : Nat) (l : List Str) (f : Str), tFls[c]? = some l → f ∈ l → NoAttr (gq K).K ((gq K).cad c) f
  | n + 0, l, f, h, hf => by cases h
theorem fldF {K : PySem.W.Frag} (S : Says K) : FldF (gq K) tFls := ⟨fun c l h => by show tFlsX.getD c [] = l; rw [List.getD_eq_getElem?_getD, show tFlsX[c]? = some l from (List.getElem?_append_left (List.getElem?_eq_some_iff.mp h).1).trans h]; rfl, cls_all S, no_all S⟩
theorem xtS {K : PySem.W.Frag} (S : Says K) : xtB tCls tX K = true := (He.ba (He.ba (He.ba (He.ba (He.ba (He.ba (He.ba S.chk).2).1).2).2).2).2).1
theorem xiS {K : PySem.W.Frag} (S : Says K) : xiA tCls tXi K = true := (He.ba (He.ba (He.ba (He.ba (He.ba (He.ba (He.ba S.chk).2).1).2).2).2).2).2
theorem xcf_ok {K : PySem.W.Frag} (S : Says K) {c : Nat} (h : (tX.exs.lookup c).isSome = true) : XcF (gq K) (gq K).K c := xt_xcf (xtS S) h
theorem kitF {K : PySem.W.Frag} (S : Says K) : KitF (gq K) nKit nKit subK := kitB_ok (He.ba (He.ba S.chk).1).1
section
variable {P : Program} {w : World} {mg : Str → Option Value} {base : Heap} {K : PySem.W.Frag}
abbrev sh_Slip___init__ : List (Nat × List Str) := [(2, []), (1, ["row"])]
abbrev N_Slip___init__ : List Str := ["self", "row"]
theorem fs_Slip___init__ : FnScope N_Slip___init__ ["self", "row"] (defScope st_Slip___init__) := ⟨rfl, rfl, rfl, by decide +kernel, rfl, by decide +kernel, by decide +kernel⟩
theorem exi_Slip (T : TX K mg w) (S : Says K) : ExI (gq K) P w mg base 4 0 ["row"] ["self", "row"] ([] : List D) 1 sh_Slip___init__ :=
  xi_exi (np := 0) (N := N_Slip___init__) (dfl := ([] : List D)) (p := ⟨"Slip", 0, "LadderError", ["row"]⟩) (xiS S) rfl rfl (S.says.def_ 8 (d := d_Slip___init__) rfl) rfl fs_Slip___init__ rfl (fun X W h c => ini1 c T.toTb rfl rfl (xi_bi h) (xi_oe h) rfl rfl (xi_tk h (by decide)) rfl) (fun fd F => ⟨bnd0 (g := gq K) F (fun _ _ _ _ _ _ us ws hu hw => match us, ws, hu, hw with | [_, _], [], _, _ => ⟨_, rfl, rfl⟩), ⟨bnd0 (g := gq K) F (fun _ _ _ _ _ _ us ws hu hw => match us, ws, hu, hw with | [_], [_], _, _ => ⟨_, rfl, rfl⟩), trivial⟩⟩)
abbrev sh_NoText___init__ : List (Nat × List Str) := [(2, []), (3, []), (1, ["why", "row"]), (1, ["row"])]
abbrev N_NoText___init__ : List Str := ["self", "row", "why"]
theorem fs_NoText___init__ : FnScope N_NoText___init__ ["self", "row", "why"] (defScope st_NoText___init__) := ⟨rfl, rfl, rfl, by decide +kernel, rfl, by decide +kernel, by decide +kernel⟩
theorem exi_NoText (T : TX K mg w) (S : Says K) : ExI (gq K) P w mg base 5 0 ["row", "why"] ["self", "row", "why"] ([.str "form"] : List D) 1 sh_NoText___init__ :=
  xi_exi (np := 0) (N := N_NoText___init__) (dfl := ([.str "form"] : List D)) (p := ⟨"NoText", 0, "LadderError", ["row", "why"]⟩) (xiS S) rfl rfl (S.says.def_ 9 (d := d_NoText___init__) rfl) rfl fs_NoText___init__ rfl (fun X W h c => ini2 c T.toTb rfl rfl (xi_bi h) (xi_oe h) rfl rfl rfl (xi_tk h (by decide)) (xi_tk h (by decide)) rfl) (fun fd F => ⟨bnd1 (g := gq K) F (by intro h; cases h) (fun _ _ _ _ _ _ _ us its ws hu hi hw => match us, its, ws, hu, hi, hw with | [_, _], [_], [], _, _, _ => ⟨_, rfl, _, rfl, rfl⟩), ⟨bnd1 (g := gq K) F (by intro h; cases h) (fun _ _ _ _ _ _ _ us its ws hu hi hw => match us, its, ws, hu, hi, hw with | [_, _, _], [_], [], _, _, _ => ⟨_, rfl, _, rfl, rfl⟩), ⟨bnd1 (g := gq K) F (by intro h; cases h) (fun _ _ _ _ _ _ _ us its ws hu hi hw => match us, its, ws, hu, hi, hw with | [_], [_], [_, _], _, _, _ => ⟨_, rfl, _, rfl, rfl⟩), ⟨bnd1 (g := gq K) F (by intro h; cases h) (fun _ _ _ _ _ _ _ us its ws hu hi hw => match us, its, ws, hu, hi, hw with | [_], [_], [_], _, _, _ => ⟨_, rfl, _, rfl, rfl⟩), trivial⟩⟩⟩⟩)
abbrev sh_NoSize___init__ : List (Nat × List Str) := [(2, []), (1, ["number"])]
abbrev N_NoSize___init__ : List Str := ["self", "number"]
theorem fs_NoSize___init__ : FnScope N_NoSize___init__ ["self", "number"] (defScope st_NoSize___init__) := ⟨rfl, rfl, rfl, by decide +kernel, rfl, by decide +kernel, by decide +kernel⟩
theorem exi_NoSize (T : TX K mg w) (S : Says K) : ExI (gq K) P w mg base 6 2 ["number"] ["self", "number"] ([] : List D) 1 sh_NoSize___init__ :=
  xi_exi (np := 0) (N := N_NoSize___init__) (dfl := ([] : List D)) (p := ⟨"NoSize", 2, "LandError", ["number"]⟩) (xiS S) rfl rfl (S.says.def_ 10 (d := d_NoSize___init__) rfl) rfl fs_NoSize___init__ rfl (fun X W h c => ini1 c T.toTb rfl rfl (xi_bi h) (xi_oe h) rfl rfl (xi_tk h (by decide)) rfl) (fun fd F => ⟨bnd0 (g := gq K) F (fun _ _ _ _ _ _ us ws hu hw => match us, ws, hu, hw with | [_, _], [], _, _ => ⟨_, rfl, rfl⟩), ⟨bnd0 (g := gq K) F (fun _ _ _ _ _ _ us ws hu hw => match us, ws, hu, hw with | [_], [_], _, _ => ⟨_, rfl, rfl⟩), trivial⟩⟩)
abbrev sh_NoLand___init__ : List (Nat × List Str) := [(2, []), (1, ["name"])]
abbrev N_NoLand___init__ : List Str := ["self", "name"]
theorem fs_NoLand___init__ : FnScope N_NoLand___init__ ["self", "name"] (defScope st_NoLand___init__) := ⟨rfl, rfl, rfl, by decide +kernel, rfl, by decide +kernel, by decide +kernel⟩
theorem exi_NoLand (T : TX K mg w) (S : Says K) : ExI (gq K) P w mg base 7 2 ["name"] ["self", "name"] ([] : List D) 1 sh_NoLand___init__ :=
  xi_exi (np := 0) (N := N_NoLand___init__) (dfl := ([] : List D)) (p := ⟨"NoLand", 2, "LandError", ["name"]⟩) (xiS S) rfl rfl (S.says.def_ 11 (d := d_NoLand___init__) rfl) rfl fs_NoLand___init__ rfl (fun X W h c => ini1 c T.toTb rfl rfl (xi_bi h) (xi_oe h) rfl rfl (xi_tk h (by decide)) rfl) (fun fd F => ⟨bnd0 (g := gq K) F (fun _ _ _ _ _ _ us ws hu hw => match us, ws, hu, hw with | [_, _], [], _, _ => ⟨_, rfl, rfl⟩), ⟨bnd0 (g := gq K) F (fun _ _ _ _ _ _ us ws hu hw => match us, ws, hu, hw with | [_], [_], _, _ => ⟨_, rfl, rfl⟩), trivial⟩⟩)
abbrev sh_LandTwice___init__ : List (Nat × List Str) := [(2, []), (1, ["name"])]
abbrev N_LandTwice___init__ : List Str := ["self", "name"]
theorem fs_LandTwice___init__ : FnScope N_LandTwice___init__ ["self", "name"] (defScope st_LandTwice___init__) := ⟨rfl, rfl, rfl, by decide +kernel, rfl, by decide +kernel, by decide +kernel⟩
theorem exi_LandTwice (T : TX K mg w) (S : Says K) : ExI (gq K) P w mg base 8 2 ["name"] ["self", "name"] ([] : List D) 1 sh_LandTwice___init__ :=
  xi_exi (np := 0) (N := N_LandTwice___init__) (dfl := ([] : List D)) (p := ⟨"LandTwice", 2, "LandError", ["name"]⟩) (xiS S) rfl rfl (S.says.def_ 12 (d := d_LandTwice___init__) rfl) rfl fs_LandTwice___init__ rfl (fun X W h c => ini1 c T.toTb rfl rfl (xi_bi h) (xi_oe h) rfl rfl (xi_tk h (by decide)) rfl) (fun fd F => ⟨bnd0 (g := gq K) F (fun _ _ _ _ _ _ us ws hu hw => match us, ws, hu, hw with | [_, _], [], _, _ => ⟨_, rfl, rfl⟩), ⟨bnd0 (g := gq K) F (fun _ _ _ _ _ _ us ws hu hw => match us, ws, hu, hw with | [_], [_], _, _ => ⟨_, rfl, rfl⟩), trivial⟩⟩)
abbrev sh_l_hand_of : List (Nat × List Str) := [(2, [])]
abbrev N_l_hand_of : List Str := ["_law_script", "_law_k", "_law_cell", "_law_seed"]
theorem fs_l_hand_of : FnScope N_l_hand_of ["_law_script", "_law_k"] (defScope st_l_hand_of) := ⟨rfl, rfl, rfl, by decide +kernel, rfl, by decide +kernel, by decide +kernel⟩
theorem b_l_hand_of (T : TX K mg w) (S : Says K) : ∀ X W, Ct (gq K) P w mg base 0 N_l_hand_of (defScope st_l_hand_of) true true true X W → SB (gq K) X W (defBody st_l_hand_of) c_l_hand_of := fun X W c =>
  sb_cons (c.set rfl rfl se_int) (sb_cons (ss_if (st_cmp (ok_lt c.K c.hu64) (c.var rfl) (c.callB T.toTb (co_len c.K) rfl rfl rfl rfl (sa_cons rfl (c.var rfl) sa_nil)) rfl) (sb_cons (c.set rfl rfl (se_ix c.K (c.var rfl) (c.var rfl) rfl)) sb_nil) sb_nil) (sb_cons (c.set rfl rfl (se_bin ok_mod (se_bin (ok_add c.K) (se_bin (ok_add c.K) (se_bin ok_mod (c.var rfl) se_int) (se_bin ok_mul se_int (c.var rfl))) se_int) se_int)) (sb_cons (ss_ret (se_lst (sa_cons rfl (se_bin ok_mul (c.var rfl) (c.callTy T.toTb co_int rfl rfl rfl rfl (sa_cons rfl (se_cmp ok_ge (c.var rfl) (se_bin ok_pow se_int se_int) rfl) sa_nil))) (sa_cons rfl (c.var rfl) (sa_cons rfl se_int sa_nil))))) sb_nil)))
theorem ok_l_hand_of (T : TX K mg w) (S : Says K) : FnC true (gq K) P w mg base fi_l_hand_of 1 (He.ga K "_law_hand_of") sh_l_hand_of :=
  FnC.of (dfl := ([] : List D)) (S.says.def_ 0 (d := d_l_hand_of) rfl) rfl fs_l_hand_of (b_l_hand_of T S) (fun fd F => ⟨bnd0 F (fun _ _ _ _ _ _ us ws hu hw => match us, ws, hu, hw with | [_, _], [], _, _ => ⟨_, rfl, rfl⟩), trivial⟩)
abbrev sh_l_take : List (Nat × List Str) := [(2, [])]
abbrev N_l_take : List Str := ["_law_hand", "_law_many", "_law_digit", "_law_stirred"]
theorem fs_l_take : FnScope N_l_take ["_law_hand", "_law_many"] (defScope st_l_take) := ⟨rfl, rfl, rfl, by decide +kernel, rfl, by decide +kernel, by decide +kernel⟩
theorem b_l_take (T : TX K mg w) (S : Says K) : ∀ X W, Ct (gq K) P w mg base 0 N_l_take (defScope st_l_take) true true true X W → SB (gq K) X W (defBody st_l_take) c_l_take := fun X W c =>
  sb_cons (ss_if (st_cmp (ok_gt c.K c.hu64) (se_ix c.K (c.var rfl) se_int rfl) se_int rfl) (sb_cons (c.set rfl rfl (se_bin ok_mod (se_ix c.K (c.var rfl) se_int rfl) (c.var rfl))) (sb_cons (c.subS rfl (c.var rfl) se_int rfl (se_bin ok_fdiv (se_ix c.K (c.var rfl) se_int rfl) (c.var rfl))) (sb_cons (ss_ret (c.var rfl)) sb_nil))) sb_nil) (sb_cons (c.subS rfl (c.var rfl) se_int rfl (se_bin (ok_add c.K) (se_ix c.K (c.var rfl) se_int rfl) se_int)) (sb_cons (c.set rfl rfl (se_bin ok_mod (se_bin ok_pow (se_bin (ok_add c.K) (se_bin (ok_add c.K) (se_ix c.K (c.var rfl) se_int rfl) (se_bin ok_mul (se_bin ok_mul se_int (se_ix c.K (c.var rfl) se_int rfl)) (se_ix c.K (c.var rfl) se_int rfl))) se_int) se_int) se_int)) (sb_cons (c.set rfl rfl (se_bin ok_mod (se_bin ok_mul (c.var rfl) (se_bin (ok_add c.K) (se_bin ok_mod (c.var rfl) se_int) (se_bin ok_mul se_int (se_ix c.K (c.var rfl) se_int rfl)))) se_int)) (sb_cons (ss_ret (se_bin ok_mod (se_bin (ok_add c.K) (se_bin ok_fdiv (c.var rfl) se_int) (se_bin ok_fdiv (c.var rfl) se_int)) (c.var rfl))) sb_nil))))
theorem ok_l_take (T : TX K mg w) (S : Says K) : FnC true (gq K) P w mg base fi_l_take 1 (He.ga K "_law_take") sh_l_take :=
  FnC.of (dfl := ([] : List D)) (S.says.def_ 1 (d := d_l_take) rfl) rfl fs_l_take (b_l_take T S) (fun fd F => ⟨bnd0 F (fun _ _ _ _ _ _ us ws hu hw => match us, ws, hu, hw with | [_, _], [], _, _ => ⟨_, rfl, rfl⟩), trivial⟩)
abbrev sh_l_thing : List (Nat × List Str) := [(1, [])]
abbrev N_l_thing : List Str := ["_law_hand", "_law_some"]
theorem fs_l_thing : FnScope N_l_thing ["_law_hand"] (defScope st_l_thing) := ⟨rfl, rfl, rfl, by decide +kernel, rfl, by decide +kernel, by decide +kernel⟩
theorem b_l_thing (T : TX K mg w) (S : Says K) : ∀ X W, Ct (gq K) P w mg base 1 N_l_thing (defScope st_l_thing) true true true X W → SB (gq K) X W (defBody st_l_thing) c_l_thing := fun X W c =>
  sb_cons (c.set rfl rfl (se_lst (sa_cons rfl se_non (sa_cons rfl se_bl (sa_cons rfl se_int (sa_cons rfl se_int (sa_cons rfl (se_un un_ok_neg se_int) (sa_cons rfl (se_bin ok_pow se_int se_int) (sa_cons rfl se_str (sa_cons rfl se_str (sa_cons rfl se_str (sa_cons rfl (se_tup (sa_cons rfl se_int (sa_cons rfl se_int sa_nil))) (sa_cons rfl (se_tup sa_nil) (sa_cons rfl (se_lst (sa_cons rfl se_int sa_nil)) (sa_cons rfl se_dic0 (sa_cons rfl (se_tup (sa_cons rfl se_non (sa_cons rfl se_str sa_nil))) sa_nil)))))))))))))))) (sb_cons (ss_ret (se_ix c.K (c.var rfl) (c.call T.toTb (ok_l_take T S) rfl rfl rfl rfl rfl rfl (.cons rfl (sa_cons rfl (c.var rfl) (sa_cons rfl se_int sa_nil))) sk_nil) rfl)) sb_nil)
theorem ok_l_thing (T : TX K mg w) (S : Says K) : FnC true (gq K) P w mg base fi_l_thing 2 (He.ga K "_law_thing") sh_l_thing :=
  FnC.of (dfl := ([] : List D)) (S.says.def_ 2 (d := d_l_thing) rfl) rfl fs_l_thing (b_l_thing T S) (fun fd F => ⟨bnd0 F (fun _ _ _ _ _ _ us ws hu hw => match us, ws, hu, hw with | [_], [], _, _ => ⟨_, rfl, rfl⟩), trivial⟩)
abbrev sh_l_own : List (Nat × List Str) := [(1, [])]
abbrev N_l_own : List Str := ["_law_e", "_law_found"]
theorem fs_l_own : FnScope N_l_own ["_law_e"] (defScope st_l_own) := ⟨rfl, rfl, rfl, by decide +kernel, rfl, by decide +kernel, by decide +kernel⟩
theorem b_l_own (T : TX K mg w) (S : Says K) : ∀ X W, Ct (gq K) P w mg base 0 N_l_own (defScope st_l_own) true true true X W → SB (gq K) X W (defBody st_l_own) c_l_own := fun X W c =>
  sb_cons (c.set rfl rfl (se_lst (sa_cons rfl (c.callB T.toTb (co_isiY c.K (xt_isiY (xtS S) (xiS S)) (co_isi c.K (kitF S))) rfl rfl rfl rfl (sa_cons rfl (c.var rfl) (sa_cons rfl (c.clsName T.toTb rfl rfl rfl) sa_nil))) (sa_cons rfl (c.callB T.toTb (co_isiY c.K (xt_isiY (xtS S) (xiS S)) (co_isi c.K (kitF S))) rfl rfl rfl rfl (sa_cons rfl (c.var rfl) (sa_cons rfl (c.clsName T.toTb rfl rfl rfl) sa_nil))) (sa_cons rfl (c.callB T.toTb (co_isiY c.K (xt_isiY (xtS S) (xiS S)) (co_isi c.K (kitF S))) rfl rfl rfl rfl (sa_cons rfl (c.var rfl) (sa_cons rfl (c.clsName T.toTb rfl rfl rfl) sa_nil))) (sa_cons rfl (c.callB T.toTb (co_isiY c.K (xt_isiY (xtS S) (xiS S)) (co_isi c.K (kitF S))) rfl rfl rfl rfl (sa_cons rfl (c.var rfl) (sa_cons rfl (c.clsName T.toTb rfl rfl rfl) sa_nil))) sa_nil)))))) (sb_cons (c.set rfl rfl (se_bin (ok_add c.K) (c.var rfl) (se_lst (sa_cons rfl (c.callB T.toTb (co_isiY c.K (xt_isiY (xtS S) (xiS S)) (co_isi c.K (kitF S))) rfl rfl rfl rfl (sa_cons rfl (c.var rfl) (sa_cons rfl (c.clsName T.toTb rfl rfl rfl) sa_nil))) (sa_cons rfl (c.callB T.toTb (co_isiY c.K (xt_isiY (xtS S) (xiS S)) (co_isi c.K (kitF S))) rfl rfl rfl rfl (sa_cons rfl (c.var rfl) (sa_cons rfl (c.clsName T.toTb rfl rfl rfl) sa_nil))) (sa_cons rfl (c.callB T.toTb (co_isiY c.K (xt_isiY (xtS S) (xiS S)) (co_isi c.K (kitF S))) rfl rfl rfl rfl (sa_cons rfl (c.var rfl) (sa_cons rfl (c.clsName T.toTb rfl rfl rfl) sa_nil))) (sa_cons rfl (c.callB T.toTb (co_isiY c.K (xt_isiY (xtS S) (xiS S)) (co_isi c.K (kitF S))) rfl rfl rfl rfl (sa_cons rfl (c.var rfl) (sa_cons rfl (c.clsName T.toTb rfl rfl rfl) sa_nil))) sa_nil))))))) (sb_cons (ss_ret (se_bin (ok_add c.K) (c.var rfl) (se_lst (sa_cons rfl (c.callB T.toTb (co_isiY c.K (xt_isiY (xtS S) (xiS S)) (co_isi c.K (kitF S))) rfl rfl rfl rfl (sa_cons rfl (c.var rfl) (sa_cons rfl (c.clsName T.toTb rfl rfl rfl) sa_nil))) (sa_cons rfl (c.callB T.toTb (co_isiY c.K (xt_isiY (xtS S) (xiS S)) (co_isi c.K (kitF S))) rfl rfl rfl rfl (sa_cons rfl (c.var rfl) (sa_cons rfl (c.clsName T.toTb rfl rfl rfl) sa_nil))) (sa_cons rfl (c.callB T.toTb (co_isiY c.K (xt_isiY (xtS S) (xiS S)) (co_isi c.K (kitF S))) rfl rfl rfl rfl (sa_cons rfl (c.var rfl) (sa_cons rfl (c.clsName T.toTb rfl rfl rfl) sa_nil))) sa_nil)))))) sb_nil))
theorem ok_l_own (T : TX K mg w) (S : Says K) : FnC true (gq K) P w mg base fi_l_own 1 (He.ga K "_law_own") sh_l_own :=
  FnC.of (dfl := ([] : List D)) (S.says.def_ 3 (d := d_l_own) rfl) rfl fs_l_own (b_l_own T S) (fun fd F => ⟨bnd0 F (fun _ _ _ _ _ _ us ws hu hw => match us, ws, hu, hw with | [_], [], _, _ => ⟨_, rfl, rfl⟩), trivial⟩)
abbrev sh_l_families : List (Nat × List Str) := [(1, [])]
abbrev N_l_families : List Str := ["_law_e", "_law_found"]
theorem fs_l_families : FnScope N_l_families ["_law_e"] (defScope st_l_families) := ⟨rfl, rfl, rfl, by decide +kernel, rfl, by decide +kernel, by decide +kernel⟩
theorem b_l_families (T : TX K mg w) (S : Says K) : ∀ X W, Ct (gq K) P w mg base 0 N_l_families (defScope st_l_families) true true true X W → SB (gq K) X W (defBody st_l_families) c_l_families := fun X W c =>
  sb_cons (c.set rfl rfl (se_lst (sa_cons rfl (c.callB T.toTb (co_isiY c.K (xt_isiY (xtS S) (xiS S)) (co_isi c.K (kitF S))) rfl rfl rfl rfl (sa_cons rfl (c.var rfl) (sa_cons rfl (c.clsName T.toTb rfl rfl rfl) sa_nil))) (sa_cons rfl (c.callB T.toTb (co_isiY c.K (xt_isiY (xtS S) (xiS S)) (co_isi c.K (kitF S))) rfl rfl rfl rfl (sa_cons rfl (c.var rfl) (sa_cons rfl (c.tyName T.toTb rfl rfl rfl) sa_nil))) (sa_cons rfl (c.callB T.toTb (co_isiY c.K (xt_isiY (xtS S) (xiS S)) (co_isi c.K (kitF S))) rfl rfl rfl rfl (sa_cons rfl (c.var rfl) (sa_cons rfl (c.clsName T.toTb rfl rfl rfl) sa_nil))) sa_nil))))) (sb_cons (ss_ret (se_bin (ok_add c.K) (c.var rfl) (se_lst (sa_cons rfl (c.callB T.toTb (co_isiY c.K (xt_isiY (xtS S) (xiS S)) (co_isi c.K (kitF S))) rfl rfl rfl rfl (sa_cons rfl (c.var rfl) (sa_cons rfl (c.tyName T.toTb rfl rfl rfl) sa_nil))) (sa_cons rfl (c.callB T.toTb (co_isiY c.K (xt_isiY (xtS S) (xiS S)) (co_isi c.K (kitF S))) rfl rfl rfl rfl (sa_cons rfl (c.var rfl) (sa_cons rfl (c.tyName T.toTb rfl rfl rfl) sa_nil))) (sa_cons rfl (c.callB T.toTb (co_isiY c.K (xt_isiY (xtS S) (xiS S)) (co_isi c.K (kitF S))) rfl rfl rfl rfl (sa_cons rfl (c.var rfl) (sa_cons rfl (c.tyName T.toTb rfl rfl rfl) sa_nil))) sa_nil)))))) sb_nil)
theorem ok_l_families (T : TX K mg w) (S : Says K) : FnC true (gq K) P w mg base fi_l_families 1 (He.ga K "_law_families") sh_l_families :=
  FnC.of (dfl := ([] : List D)) (S.says.def_ 4 (d := d_l_families) rfl) rfl fs_l_families (b_l_families T S) (fun fd F => ⟨bnd0 F (fun _ _ _ _ _ _ us ws hu hw => match us, ws, hu, hw with | [_], [], _, _ => ⟨_, rfl, rfl⟩), trivial⟩)
abbrev sh_l_kinds_right : List (Nat × List Str) := [(1, [])]
abbrev N_l_kinds_right : List Str := ["_law_made", "_law_at", "_law_e", "_law_place", "_law_due"]
theorem fs_l_kinds_right : FnScope N_l_kinds_right ["_law_made"] (defScope st_l_kinds_right) := ⟨rfl, rfl, rfl, by decide +kernel, rfl, by decide +kernel, by decide +kernel⟩
theorem b_l_kinds_right (T : TX K mg w) (S : Says K) : ∀ X W, Ct (gq K) P w mg base 1 N_l_kinds_right (defScope st_l_kinds_right) true true true X W → SB (gq K) X W (defBody st_l_kinds_right) c_l_kinds_right := fun X W c =>
  sb_cons (ss_for (c.po rfl rfl) (c.calm rfl) (si_enum2 c.K (c.gl rfl).1 (by rw [c.hmg]; exact T.fr _ rfl) rfl (c.var rfl)) (sl := [1, 2]) (sg_tup c.K (c.calm rfl) (.cons rfl (c.sgName rfl) (.cons rfl (c.sgName rfl) .nil))) (sb_cons (ss_if (st_cmp (ok_ne c.K c.hu64) (c.call T.toTb (ok_l_own T S) rfl rfl rfl rfl rfl rfl (.cons rfl (sa_cons rfl (c.var rfl) sa_nil)) sk_nil) (c.comp0 (sl := [3]) (ow := [("_law_place", 3)]) (si_range1 (c.gl rfl).1 (by rw [c.hmg]; exact T.fr _ rfl) rfl se_int) rfl rfl rfl rfl (fun X W c => c.sgName rfl) (fun X W c => se_cmp (ok_eq c.K c.hu64) (c.var rfl) (c.var rfl) rfl)) rfl) (sb_cons (ss_ret se_bl) sb_nil) sb_nil) (sb_cons (c.set rfl rfl (se_lst (sa_cons rfl (se_cmp (ok_lt c.K c.hu64) (c.var rfl) se_int rfl) (sa_cons rfl (se_cmp (ok_lt c.K c.hu64) (c.var rfl) se_int rfl) (sa_cons rfl (se_chain ok_le (ok_lt c.K c.hu64) se_int (c.var rfl) se_int rfl) (sa_cons rfl (se_or (se_chain ok_le (ok_lt c.K c.hu64) se_int (c.var rfl) se_int rfl) (se_one (se_cmp (ok_eq c.K c.hu64) (c.var rfl) se_int rfl))) (sa_cons rfl (se_cmp (ok_eq c.K c.hu64) (c.var rfl) se_int rfl) (sa_cons rfl (se_cmp (ok_eq c.K c.hu64) (c.var rfl) se_int rfl) sa_nil)))))))) (sb_cons (ss_if (st_cmp (ok_ne c.K c.hu64) (c.call T.toTb (ok_l_families T S) rfl rfl rfl rfl rfl rfl (.cons rfl (sa_cons rfl (c.var rfl) sa_nil)) sk_nil) (c.var rfl) rfl) (sb_cons (ss_ret se_bl) sb_nil) sb_nil) sb_nil))) rfl) (sb_cons (ss_ret se_bl) sb_nil)
theorem ok_l_kinds_right (T : TX K mg w) (S : Says K) : FnC true (gq K) P w mg base fi_l_kinds_right 2 (He.ga K "_law_kinds_right") sh_l_kinds_right :=
  FnC.of (dfl := ([] : List D)) (S.says.def_ 5 (d := d_l_kinds_right) rfl) rfl fs_l_kinds_right (b_l_kinds_right T S) (fun fd F => ⟨bnd0 F (fun _ _ _ _ _ _ us ws hu hw => match us, ws, hu, hw with | [_], [], _, _ => ⟨_, rfl, rfl⟩), trivial⟩)
abbrev sh_l_values_right : List (Nat × List Str) := [(1, [])]
abbrev N_l_values_right : List Str := ["_law_hand", "_law_one", "_law_two", "_law_three", "_law_here", "_law_other", "_law_slips", "_law_texts", "_law_sizes", "_law_lands", "_law_twice", "_law_found", "_law_e", "_law_due"]
theorem fs_l_values_right : FnScope N_l_values_right ["_law_hand"] (defScope st_l_values_right) := ⟨rfl, rfl, rfl, by decide +kernel, rfl, by decide +kernel, by decide +kernel⟩
theorem b_l_values_right (T : TX K mg w) (S : Says K) : ∀ X W, Ct (gq K) P w mg base 66 N_l_values_right (defScope st_l_values_right) true true true X W → SB (gq K) X W (defBody st_l_values_right) c_l_values_right := fun X W c =>
  sb_cons (c.par3 rfl rfl rfl rfl rfl rfl rfl (so_cons rfl (c.call T.toTb (ok_l_thing T S) rfl rfl rfl rfl rfl rfl (.cons rfl (sa_cons rfl (c.var rfl) sa_nil)) sk_nil) (so_cons rfl (c.call T.toTb (ok_l_thing T S) rfl rfl rfl rfl rfl rfl (.cons rfl (sa_cons rfl (c.var rfl) sa_nil)) sk_nil) (so_cons rfl (c.call T.toTb (ok_l_thing T S) rfl rfl rfl rfl rfl rfl (.cons rfl (sa_cons rfl (c.var rfl) sa_nil)) sk_nil) so_nil)))) (sb_cons (c.par2 rfl rfl rfl rfl (so_cons rfl (c.call T.toTb (ok_l_take T S) rfl rfl rfl rfl rfl rfl (.cons rfl (sa_cons rfl (c.var rfl) (sa_cons rfl (se_bin ok_pow se_int se_int) sa_nil))) sk_nil) (so_cons rfl (c.call T.toTb (ok_l_take T S) rfl rfl rfl rfl rfl rfl (.cons rfl (sa_cons rfl (c.var rfl) (sa_cons rfl se_int sa_nil))) sk_nil) so_nil))) (sb_cons (c.par2 rfl rfl rfl rfl (so_cons rfl (se_lst (sa_cons rfl (c.excI T.toTb (exi_Slip T S) rfl rfl rfl rfl rfl rfl rfl (.cons rfl (sa_cons rfl (c.var rfl) sa_nil)) sk_nil) (sa_cons rfl (c.excI T.toTb (exi_Slip T S) rfl rfl rfl rfl rfl rfl rfl .nil (sk_cons (c.var rfl) sk_nil)) sa_nil))) (so_cons rfl (se_lst (sa_cons rfl (c.excI T.toTb (exi_NoText T S) rfl rfl rfl rfl rfl rfl rfl (.cons rfl (sa_cons rfl (c.var rfl) sa_nil)) sk_nil) (sa_cons rfl (c.excI T.toTb (exi_NoText T S) rfl rfl rfl rfl rfl rfl rfl (.cons rfl (sa_cons rfl (c.var rfl) (sa_cons rfl se_str sa_nil))) sk_nil) (sa_cons rfl (c.excI T.toTb (exi_NoText T S) rfl rfl rfl rfl rfl rfl rfl .nil (sk_cons se_str (sk_cons (c.var rfl) sk_nil))) sa_nil)))) so_nil))) (sb_cons (ss_expr (se_lm PySem.F.slot_list_append PySem.F.type_list_append lm_app c.K rfl rfl rfl (c.var rfl) (sa_cons rfl (c.excI T.toTb (exi_NoText T S) rfl rfl rfl rfl rfl rfl rfl .nil (sk_cons (c.var rfl) sk_nil)) sa_nil)) rfl) (sb_cons (c.par3 rfl rfl rfl rfl rfl rfl rfl (so_cons rfl (se_lst (sa_cons rfl (c.excI T.toTb (exi_NoSize T S) rfl rfl rfl rfl rfl rfl rfl (.cons rfl (sa_cons rfl (c.var rfl) sa_nil)) sk_nil) (sa_cons rfl (c.excI T.toTb (exi_NoSize T S) rfl rfl rfl rfl rfl rfl rfl .nil (sk_cons (c.var rfl) sk_nil)) sa_nil))) (so_cons rfl (se_lst (sa_cons rfl (c.excI T.toTb (exi_NoLand T S) rfl rfl rfl rfl rfl rfl rfl (.cons rfl (sa_cons rfl (c.var rfl) sa_nil)) sk_nil) (sa_cons rfl (c.excI T.toTb (exi_NoLand T S) rfl rfl rfl rfl rfl rfl rfl .nil (sk_cons (c.var rfl) sk_nil)) sa_nil))) (so_cons rfl (se_lst (sa_cons rfl (c.excI T.toTb (exi_LandTwice T S) rfl rfl rfl rfl rfl rfl rfl (.cons rfl (sa_cons rfl (c.var rfl) sa_nil)) sk_nil) sa_nil)) so_nil)))) (sb_cons (ss_expr (se_lm PySem.F.slot_list_append PySem.F.type_list_append lm_app c.K rfl rfl rfl (c.var rfl) (sa_cons rfl (c.excI T.toTb (exi_LandTwice T S) rfl rfl rfl rfl rfl rfl rfl .nil (sk_cons (c.var rfl) sk_nil)) sa_nil)) rfl) (sb_cons (c.set rfl rfl (se_lst (sa_cons rfl (c.comp0 (sl := [12]) (ow := [("_law_e", 12)]) (si_val c.K (c.var rfl)) rfl rfl rfl rfl (fun X W c => c.sgName rfl) (fun X W c => se_attrX c.K (xi_xff (xiS S) rfl) (c.var rfl) rfl (c.attr (fldF S) (no_row S) (c.var rfl) rfl))) (sa_cons rfl (c.comp0 (sl := [12]) (ow := [("_law_e", 12)]) (si_val c.K (c.var rfl)) rfl rfl rfl rfl (fun X W c => c.sgName rfl) (fun X W c => se_attrX c.K (xi_xff (xiS S) rfl) (c.var rfl) rfl (c.attr (fldF S) (no_row S) (c.var rfl) rfl))) (sa_cons rfl (c.comp0 (sl := [12]) (ow := [("_law_e", 12)]) (si_val c.K (c.var rfl)) rfl rfl rfl rfl (fun X W c => c.sgName rfl) (fun X W c => se_attrX c.K (xi_xff (xiS S) rfl) (c.var rfl) rfl (c.attr (fldF S) (no_why S) (c.var rfl) rfl))) (sa_cons rfl (c.comp0 (sl := [12]) (ow := [("_law_e", 12)]) (si_val c.K (c.var rfl)) rfl rfl rfl rfl (fun X W c => c.sgName rfl) (fun X W c => se_attrX c.K (xi_xff (xiS S) rfl) (c.var rfl) rfl (c.attr (fldF S) (no_number S) (c.var rfl) rfl))) sa_nil)))))) (sb_cons (c.set rfl rfl (se_bin (ok_add c.K) (c.var rfl) (se_lst (sa_cons rfl (c.comp0 (sl := [12]) (ow := [("_law_e", 12)]) (si_val c.K (c.var rfl)) rfl rfl rfl rfl (fun X W c => c.sgName rfl) (fun X W c => se_attrX c.K (xi_xff (xiS S) rfl) (c.var rfl) rfl (c.attr (fldF S) (no_name S) (c.var rfl) rfl))) (sa_cons rfl (c.comp0 (sl := [12]) (ow := [("_law_e", 12)]) (si_val c.K (c.var rfl)) rfl rfl rfl rfl (fun X W c => c.sgName rfl) (fun X W c => se_attrX c.K (xi_xff (xiS S) rfl) (c.var rfl) rfl (c.attr (fldF S) (no_name S) (c.var rfl) rfl))) sa_nil))))) (sb_cons (c.set rfl rfl (se_lst (sa_cons rfl (se_lst (sa_cons rfl (c.var rfl) (sa_cons rfl (c.var rfl) sa_nil))) (sa_cons rfl (se_lst (sa_cons rfl (c.var rfl) (sa_cons rfl (c.var rfl) (sa_cons rfl (c.var rfl) (sa_cons rfl (c.var rfl) sa_nil))))) (sa_cons rfl (se_lst (sa_cons rfl se_str (sa_cons rfl se_str (sa_cons rfl se_str (sa_cons rfl se_str sa_nil))))) (sa_cons rfl (se_lst (sa_cons rfl (c.var rfl) (sa_cons rfl (c.var rfl) sa_nil))) (sa_cons rfl (se_lst (sa_cons rfl (c.var rfl) (sa_cons rfl (c.var rfl) sa_nil))) sa_nil))))))) (sb_cons (ss_ret (se_cmp (ok_eq c.K c.hu64) (c.callD T.toTb (c.reprP (c.gd rfl) rfl) rfl rfl rfl rfl (sa_cons rfl (c.var rfl) sa_nil)) (c.callD T.toTb (c.reprP (c.gd rfl) rfl) rfl rfl rfl rfl (sa_cons rfl (se_bin (ok_add c.K) (c.var rfl) (se_lst (sa_cons rfl (se_lst (sa_cons rfl (c.var rfl) (sa_cons rfl (c.var rfl) sa_nil))) sa_nil))) sa_nil)) rfl)) sb_nil)))))))))
theorem ok_l_values_right (T : TX K mg w) (S : Says K) : FnC true (gq K) P w mg base fi_l_values_right 67 (He.ga K "_law_values_right") sh_l_values_right :=
  FnC.of (dfl := ([] : List D)) (S.says.def_ 6 (d := d_l_values_right) rfl) rfl fs_l_values_right (b_l_values_right T S) (fun fd F => ⟨bnd0 F (fun _ _ _ _ _ _ us ws hu hw => match us, ws, hu, hw with | [_], [], _, _ => ⟨_, rfl, rfl⟩), trivial⟩)
abbrev N_law : List Str := ["_law_script", "_law_k", "_law_hand", "_law_made"]
theorem fs_law : FnScope N_law ["_law_script"] (defScope st_law) := ⟨rfl, rfl, rfl, by decide +kernel, rfl, by decide +kernel, by decide +kernel⟩
theorem b_law (T : TX K mg w) (S : Says K) : ∀ X W, Ct (gq K) P w mg base 67 N_law (defScope st_law) true true true X W → SB (gq K) X W (defBody st_law) c_law := fun X W c =>
  sb_cons (ss_for (c.po rfl rfl) (c.calm rfl) (si_range1 (c.gl rfl).1 (by rw [c.hmg]; exact T.fr _ rfl) rfl (se_bin (ok_add c.K) se_int (c.callB T.toTb (co_min (c.calm rfl)) rfl rfl rfl rfl (sa_cons rfl se_int (sa_cons rfl (c.callB T.toTb (co_len c.K) rfl rfl rfl rfl (sa_cons rfl (c.var rfl) sa_nil)) sa_nil))))) (sl := [1]) (c.sgName rfl) (sb_cons (c.set rfl rfl (c.call T.toTb (ok_l_hand_of T S) rfl rfl rfl rfl rfl rfl (.cons rfl (sa_cons rfl (c.var rfl) (sa_cons rfl (c.var rfl) sa_nil))) sk_nil)) (sb_cons (c.set rfl rfl (se_lst (sa_cons rfl (c.exc0 T.toTb (xcf_ok S (c := 0) rfl) rfl rfl rfl) (sa_cons rfl (c.exc0 T.toTb (xcf_ok S (c := 1) rfl) rfl rfl rfl) (sa_cons rfl (c.exc0 T.toTb (xcf_ok S (c := 2) rfl) rfl rfl rfl) (sa_cons rfl (c.exc0 T.toTb (xcf_ok S (c := 3) rfl) rfl rfl rfl) (sa_cons rfl (c.excI T.toTb (exi_Slip T S) rfl rfl rfl rfl rfl rfl rfl (.cons rfl (sa_cons rfl (c.call T.toTb (ok_l_take T S) rfl rfl rfl rfl rfl rfl (.cons rfl (sa_cons rfl (c.var rfl) (sa_cons rfl se_int sa_nil))) sk_nil) sa_nil)) sk_nil) (sa_cons rfl (c.excI T.toTb (exi_NoText T S) rfl rfl rfl rfl rfl rfl rfl (.cons rfl (sa_cons rfl se_int sa_nil)) sk_nil) sa_nil)))))))) (sb_cons (c.set rfl rfl (se_bin (ok_add c.K) (c.var rfl) (se_lst (sa_cons rfl (c.excI T.toTb (exi_NoSize T S) rfl rfl rfl rfl rfl rfl rfl (.cons rfl (sa_cons rfl (c.call T.toTb (ok_l_thing T S) rfl rfl rfl rfl rfl rfl (.cons rfl (sa_cons rfl (c.var rfl) sa_nil)) sk_nil) sa_nil)) sk_nil) (sa_cons rfl (c.excI T.toTb (exi_NoLand T S) rfl rfl rfl rfl rfl rfl rfl (.cons rfl (sa_cons rfl (c.call T.toTb (ok_l_thing T S) rfl rfl rfl rfl rfl rfl (.cons rfl (sa_cons rfl (c.var rfl) sa_nil)) sk_nil) sa_nil)) sk_nil) (sa_cons rfl (c.excI T.toTb (exi_LandTwice T S) rfl rfl rfl rfl rfl rfl rfl (.cons rfl (sa_cons rfl se_str sa_nil)) sk_nil) sa_nil)))))) (sb_cons (c.set rfl rfl (se_bin (ok_add c.K) (c.var rfl) (se_lst (sa_cons rfl (c.exc0 T.toTb (xcf_ok S (c := 9) rfl) rfl rfl rfl) (sa_cons rfl (c.exc0 T.toTb (xcf_ok S (c := 10) rfl) rfl rfl rfl) sa_nil))))) (sb_cons (ss_if (st_pw (sw_or (st_not (st_val (c.call T.toTb (ok_l_kinds_right T S) rfl rfl rfl rfl rfl rfl (.cons rfl (sa_cons rfl (c.var rfl) sa_nil)) sk_nil) (fun _ => rfl))) (sw_one _ (st_not (st_val (c.call T.toTb (ok_l_values_right T S) rfl rfl rfl rfl rfl rfl (.cons rfl (sa_cons rfl (c.var rfl) sa_nil)) sk_nil) (fun _ => rfl)))))) (sb_cons (ss_ret se_bl) sb_nil) sb_nil) (sb_cons (ss_if (st_cmp (ok_ne c.K c.hu64) (c.call T.toTb (ok_l_families T S) rfl rfl rfl rfl rfl rfl (.cons rfl (sa_cons rfl (c.exc0 T.toTb (xcf_ok S (c := 11) rfl) rfl rfl rfl) sa_nil)) sk_nil) (se_lst (sa_cons rfl se_bl (sa_cons rfl se_bl (sa_cons rfl se_bl (sa_cons rfl se_bl (sa_cons rfl se_bl (sa_cons rfl se_bl sa_nil))))))) rfl) (sb_cons (ss_ret se_bl) sb_nil) sb_nil) (sb_cons (ss_if (st_cmp (ok_ne c.K c.hu64) (c.call T.toTb (ok_l_families T S) rfl rfl rfl rfl rfl rfl (.cons rfl (sa_cons rfl (c.exc0 T.toTb (xcf_ok S (c := 12) rfl) rfl rfl rfl) sa_nil)) sk_nil) (se_lst (sa_cons rfl se_bl (sa_cons rfl se_bl (sa_cons rfl se_bl (sa_cons rfl se_bl (sa_cons rfl se_bl (sa_cons rfl se_bl sa_nil))))))) rfl) (sb_cons (ss_ret se_bl) sb_nil) sb_nil) sb_nil))))))) rfl) (sb_cons (ss_ret se_bl) sb_nil)
end
end Law
set_option Elab.async false
set_option linter.all false
set_option maxRecDepth 100000
set_option maxHeartbeats 0
namespace Law
open PySem PySem.Spec PyProof.Rows L2 Sz
/-- the law from its promise -/
theorem whole (hlaw : ∀ ns : List Int, ns.length ≤ 63 → fi_law.sem [.val (.scr ns)] [] = some (.ok (.val (.bl true)), [])) : PySem.Challenge.rw_sizeladders_k74_whole_errors_by_hand.Holds := by
  open PySem.W PySem.Calls PyProof.Rows in
  w_on; o_law
  refine HandSHeadRun.head_any (r := OpenLaw.row PySem.Challenge.rw_sizeladders_k74_whole_errors_by_hand) (q := view (OpenLaw.row PySem.Challenge.rw_sizeladders_k74_whole_errors_by_hand).prog [22]) (H := hk) (ob := ob) (M := 4000) (loose := tLoose) (d := HandSHeadRun.topDef (OpenLaw.row PySem.Challenge.rw_sizeladders_k74_whole_errors_by_hand).prog 22) (kwd := []) ob_eq
    (by kernel_rfl) (fun s => by kernel_rfl) run (by kernel_rfl) (by kernel_rfl) (by kernel_rfl) (by rfl) (by first | assumption | decide +kernel) (by decide +kernel) ⟨rfl, rfl, rfl, rfl, rfl, by decide +kernel⟩ ?hw ?hc
  case hw => w_witness2
  case hc =>
    refine walk_G (l := PySem.Challenge.rw_sizeladders_k74_whole_errors_by_hand) (n := 63) (k := 68) (x := "_law_script") (gb := true) rfl (by decide) (by kernel_rfl) ⟨rfl, by decide, by decide⟩ ?F
    intro w mg fa h Y G hmg0
    obtain ⟨K, KX, SY⟩ := Y
    have S := SY.z
    have hmg : mg ("law" : PySem.Str) = some (.ref fa) := by
      have e : (HandSHeadRun.topDef (OpenLaw.row PySem.Challenge.rw_sizeladders_k74_whole_errors_by_hand).prog 22).name = ("law" : PySem.Str) := by kernel_rfl
      rw [← e]
      exact hmg0
    have T : TX K mg w := tbx_of rfl KX G SY (He.ba (He.ba S.chk).2).2 (He.ba (He.ba S.chk).1).2
    obtain ⟨fd, F⟩ := He.SaysD.def_ S.says 7 (d := d_law) rfl
    have e := hmg.symm.trans (T.gl "law" rfl).1
    cases e
    have b := FunD.bindsA (ps := ["_law_script"]) F fun _ _ _ _ _ _ us hl => match us, hl with | [_], _ => rfl
    exact ⟨K, fd, spOf (gq K) 1 fi_law.sem, KX, fun s v => b s [v] rfl, fun H a ns hl hS => sp_law (g := gq K) hS (hlaw ns hl), fun base _ _ => fn_ok (g := gq K) F fs_law (b_law T S)⟩
end Law
set_option Elab.async false
set_option linter.all false
set_option maxRecDepth 100000
set_option maxHeartbeats 4000000
set_option exponentiation.threshold 100000
namespace Law
open PySem PySem.Spec L2 Sz
theorem fmod_range {i m : Int} (h : 0 < m) : 0 ≤ i.fmod m ∧ i.fmod m < m := ⟨Int.fmod_nonneg_of_pos i h, Int.fmod_lt_of_pos i h⟩
theorem take_spec {μ : Sto} {k n : Nat} {m : Int} (h : HandAt μ k n) (hn : n < 2 ^ 200) (hm : 0 < m) (hl : Bd 8000 m) :
    ∃ d μ', fi_l_take.sem [.cell k, .val (.int m)] μ = some (.ok (.val (.int d)), μ') ∧ 0 ≤ d ∧ d < m ∧ HandAt μ' k (n + 1) ∧ Upd k μ μ' := by
  obtain ⟨a, b, c, h1, h2, h3, h4, h5⟩ := h
  have hm0 : m ≠ 0 := by omega
  have e : fi_l_take.sem [.cell k, .val (.int m)] μ = finF μ.length (c_l_take [some (.cell k), some (.val (.int m)), none, none] μ) := rfl
  rw [e]
  unfold c_l_take
  by_cases ha : 0 < a
  · have q1 := mod_ii (i := a) hm0
    have q2 := fdiv_ii (i := a) 8000 hm0 hl
    have q3 : ∀ (s : S) (d : D) (ρ : En), rt s = .val d → ρ[0]? = some (some (.cell k)) → gSubM (mVar 0) (mK (.int 0)) s ρ μ = some (ρ, μ.set k (.lst ([D.int a, .int b, .int c].set 0 d))) := fun s d ρ hs hr =>
      gSub_cell hs (by rw [mVar_ap, hr]; rfl) rfl h1 rfl
    simp only [ev, List.getElem?_cons_zero, List.getElem?_cons_succ, List.set_cons_zero, List.set_cons_succ, decide_eq_true_eq, Bool.not_eq_true', decide_eq_false_iff_not, Nat.reduceAdd, Bool.not_true, Bool.not_false, Option.map_some, Option.map_none, h1, q1, q2, ha]
    rw [q3 _ _ _ rfl rfl]
    simp only [ev, List.getElem?_cons_zero, List.getElem?_cons_succ, List.set_cons_zero, List.set_cons_succ, decide_eq_true_eq, Bool.not_eq_true', decide_eq_false_iff_not, Nat.reduceAdd, Bool.not_true, Bool.not_false, Option.map_some, Option.map_none]
    have r := fmod_range (i := a) hm
    refine ⟨_, _, rfl, r.1, r.2, ?_, ?_⟩
    · rw [Upd.set.take]
      exact ⟨_, b, c, get_set h1, h2, h3, h4, by omega⟩
    · rw [Upd.set.take]
      exact Upd.set
  · have c1 : Bd 201 (c + 1) := by unfold Bd; omega
    have hb : Bd 61 b := by unfold Bd; omega
    have q3 : ∀ (s : S) (d : D) (ρ : En), rt s = .val d → ρ[0]? = some (some (.cell k)) → gSubM (mVar 0) (mK (.int 2)) s ρ μ = some (ρ, μ.set k (.lst ([D.int a, .int b, .int c].set 2 d))) := fun s d ρ hs hr =>
      gSub_cell hs (by rw [mVar_ap, hr]; rfl) rfl h1 rfl
    simp only [ev, List.getElem?_cons_zero, List.getElem?_cons_succ, List.set_cons_zero, List.set_cons_succ, decide_eq_true_eq, Bool.not_eq_true', decide_eq_false_iff_not, Nat.reduceAdd, Bool.not_true, Bool.not_false, Option.map_some, Option.map_none, h1, ha]
    rw [q3 _ _ _ rfl rfl]
    simp only [ev, List.getElem?_cons_zero, List.getElem?_cons_succ, List.set_cons_zero, List.set_cons_succ, decide_eq_true_eq, Bool.not_eq_true', decide_eq_false_iff_not, Nat.reduceAdd, Bool.not_true, Bool.not_false, Option.map_some, Option.map_none]
    have g1 := get_set (c := .lst [.int a, .int b, .int (c + 1)]) h1
    have u1 : Upd k μ (μ.set k (.lst [.int a, .int b, .int (c + 1)])) := Upd.set
    generalize μ.set k (.lst [.int a, .int b, .int (c + 1)]) = μ1 at g1 u1 ⊢
    have k1 : Bd 17 (65537 : Int) := by unfold Bd; decide
    have m1 := mul_bd 17 201 k1 c1
    have b1 := k1.mul c1
    have m2 := mul_bd (17 + 201) 201 b1 c1
    have b2 := b1.mul c1
    have b3 := ((hb.mono (show 61 ≤ 17 + 201 + 201 by decide)).add b2).add (show Bd (17 + 201 + 201 + 1) 11 by unfold Bd; decide)
    have p1 := pow_ii (j := 3) _ b3 (by decide) (by decide)
    generalize hz : (b + 65537 * (c + 1) * (c + 1) + 11) ^ (3 : Int).toNat = z at p1
    have d1 := mod_ii (i := z) (j := 2305843009213693921) (by decide)
    have r1 := fmod_range (i := z) (m := 2305843009213693921) (by decide)
    generalize z.fmod 2305843009213693921 = y at d1 r1
    have by1 : Bd 61 y := by unfold Bd; omega
    have d2 := mod_ii (i := y) (j := 1000003) (by decide)
    have r2 := fmod_range (i := y) (m := 1000003) (by decide)
    generalize y.fmod 1000003 = y2 at d2 r2
    have k2 : Bd 17 (99991 : Int) := by unfold Bd; decide
    have m3 := mul_bd 17 201 k2 c1
    have b4 := (show Bd (17 + 201) y2 by unfold Bd; omega).add (k2.mul c1)
    have m4 := mul_bd _ _ by1 b4
    generalize hw : y * (y2 + 99991 * (c + 1)) = x at m4
    have d3 := mod_ii (i := x) (j := 2305843009213693907) (by decide)
    generalize x.fmod 2305843009213693907 = t at d3
    have f1 := fdiv_ii (i := t) (j := 97) 7 (by decide) (by unfold Bd; decide)
    have f2 := fdiv_ii (i := t) (j := 1000033) 20 (by decide) (by unfold Bd; decide)
    have d4 := mod_ii (i := t.fdiv 97 + t.fdiv 1000033) hm0
    simp only [ev, List.getElem?_cons_zero, List.getElem?_cons_succ, List.set_cons_zero, List.set_cons_succ, decide_eq_true_eq, Bool.not_eq_true', decide_eq_false_iff_not, Nat.reduceAdd, Bool.not_true, Bool.not_false, Option.map_some, Option.map_none, g1, m1, m2, p1, d1, d2, m3, m4, d3, f1, f2, d4]
    have r := fmod_range (i := t.fdiv 97 + t.fdiv 1000033) hm
    refine ⟨_, _, rfl, r.1, r.2, ?_, ?_⟩
    · rw [u1.take]
      exact ⟨_, b, c + 1, g1, h2, h3, by omega, by omega⟩
    · rw [u1.take]
      exact u1
theorem take_call {μ : Sto} {k n : Nat} {m : Int} (h : HandAt μ k n) (hm : 0 < m) (hl : Bd 8000 m) (hn : n < 2 ^ 200 := by omega) :
    ∃ d μ', callF fi_l_take 2 [] [.cell k, .val (.int m)] [] μ = some (.ok (.val (.int d)), μ') ∧ 0 ≤ d ∧ d < m ∧ HandAt μ' k (n + 1) ∧ Upd k μ μ' := by
  rw [show callF fi_l_take 2 [] [.cell k, .val (.int m)] [] μ = fi_l_take.sem [.cell k, .val (.int m)] μ from callF_eq rfl rfl rfl]
  exact take_spec h hn hm hl
theorem hand_call {μ : Sto} {ns : List Int} {k : Nat} : ∃ a b : Int, callF fi_l_hand_of 2 [] [.val (.scr ns), .val (.int k)] [] μ = some (.ok (.fr [.int a, .int b, .int 0]), μ) ∧ 0 ≤ b ∧ b < 2 ^ 61 := by
  rw [show callF fi_l_hand_of 2 [] [.val (.scr ns), .val (.int k)] [] μ = fi_l_hand_of.sem [.val (.scr ns), .val (.int k)] μ from callF_eq rfl rfl rfl]
  have e : fi_l_hand_of.sem [.val (.scr ns), .val (.int k)] μ = finF μ.length (c_l_hand_of [some (.val (.scr ns)), some (.val (.int k)), none, none] μ) := rfl
  rw [e]
  unfold c_l_hand_of
  have key : ∀ z : Int, ∃ a b : Int, finF μ.length (seqK (some (.nx, [some (.val (.scr ns)), some (.val (.int k)), some (.val (.int z)), none], μ)) (sSeq (sAsg (gNm 3 false) (mOp2 dMod (mOp2 dAdd (mOp2 dAdd (mOp2 dMod (mVar 2) (mK (.int 2305843009213693951))) (mOp2 dMul (mK (.int 7919)) (mVar 1))) (mK (.int 3))) (mK (.int 2305843009213693951)))) (sSeq (sRet (mList [mOp2 dMul (mVar 2) (mCallB bInt [mOp2 dGe (mVar 2) (mOp2 dPow (mK (.int 10)) (mK (.int 18)))]), mVar 3, mK (.int 0)])) sNil))) = some (.ok (.fr [.int a, .int b, .int 0]), μ) ∧ 0 ≤ b ∧ b < 2 ^ 61 := by
    intro z
    have d1 := mod_ii (i := z) (j := 2305843009213693951) (by decide)
    have m1 : dMul (.int 7919) (.int (k : Int)) = some (.val (.int (7919 * (k : Int)))) := mul_ii (mulOk_left (by unfold Bd; decide))
    have d2 := mod_ii (i := z.fmod 2305843009213693951 + 7919 * (k : Int) + 3) (j := 2305843009213693951) (by decide)
    have r2 := fmod_range (i := z.fmod 2305843009213693951 + 7919 * (k : Int) + 3) (m := 2305843009213693951) (by decide)
    generalize (z.fmod 2305843009213693951 + 7919 * (k : Int) + 3).fmod 2305843009213693951 = b at d2 r2
    have p1 := pow_ii (i := 10) (j := 18) 4 (by unfold Bd; decide) (by decide) (by decide)
    have m2 : dMul (.int z) (.int (if decide ((10 : Int) ^ (18 : Int).toNat ≤ z) = true then 1 else 0)) = some (.val (.int (z * (if decide ((10 : Int) ^ (18 : Int).toNat ≤ z) = true then 1 else 0)))) := mul_ii (mulOk_right (by unfold Bd; split <;> decide))
    refine ⟨z * (if decide ((10 : Int) ^ (18 : Int).toNat ≤ z) = true then 1 else 0), b, ?_, r2.1, by omega⟩
    simp only [ev, List.getElem?_cons_zero, List.getElem?_cons_succ, List.set_cons_zero, List.set_cons_succ, decide_eq_true_eq, Bool.not_eq_true', decide_eq_false_iff_not, Nat.reduceAdd, Bool.not_true, Bool.not_false, Option.map_some, Option.map_none, d1, m1, d2, p1]
    simp only [decide_eq_true_eq] at m2
    simp only [ev, List.getElem?_cons_zero, List.getElem?_cons_succ, List.set_cons_zero, List.set_cons_succ, decide_eq_true_eq, Bool.not_eq_true', decide_eq_false_iff_not, Nat.reduceAdd, Bool.not_true, Bool.not_false, Option.map_some, Option.map_none, m2, List.take_length]
  by_cases hk : (k : Int) < ns.length
  · obtain ⟨z, hz, _⟩ := atI_mem (l := ns) (i := (k : Int)) (by omega) hk
    obtain ⟨a, b, h1, h2⟩ := key z
    refine ⟨a, b, ?_, h2⟩
    rw [← h1]
    simp only [ev, List.getElem?_cons_zero, List.getElem?_cons_succ, List.set_cons_zero, List.set_cons_succ, decide_eq_true_eq, Bool.not_eq_true', decide_eq_false_iff_not, Nat.reduceAdd, Bool.not_true, Bool.not_false, Option.map_some, Option.map_none, hk, hz]
  · obtain ⟨a, b, h1, h2⟩ := key 0
    refine ⟨a, b, ?_, h2⟩
    rw [← h1]
    simp only [ev, List.getElem?_cons_zero, List.getElem?_cons_succ, List.set_cons_zero, List.set_cons_succ, decide_eq_true_eq, Bool.not_eq_true', decide_eq_false_iff_not, Nat.reduceAdd, Bool.not_true, Bool.not_false, Option.map_some, Option.map_none, hk]
theorem enumD_get : ∀ {ds : List D} {k i : Nat} {x : D}, (enumD k ds)[i]? = some x → ∃ d, ds[i]? = some d ∧ x = .tup [.int ((k + i : Nat) : Int), d]
  | [], _, _, _, h => by simp [enumD] at h
  | d :: ds, k, 0, x, h => by
    rw [enumD, List.getElem?_cons_zero] at h
    cases h
    exact ⟨d, rfl, rfl⟩
  | d :: ds, k, i + 1, x, h => by
    rw [enumD, List.getElem?_cons_succ] at h
    obtain ⟨e, h1, h2⟩ := enumD_get h
    exact ⟨e, h1, by rw [h2, show k + 1 + i = k + (i + 1) by omega]⟩
theorem list_text_len (ts : List Str) : (listText ts).length ≤ piled ts + 2 := by
  have h := textFrom_len_le ts 0 "["
  have e : (listText ts).length = (textFrom 0 "[" ts).length + 1 := by
    show (textFrom 0 "[" ts ++ "]").length = _
    rw [strLen_append]; rfl
  have e1 : ("[" : Str).length = 1 := by decide
  have e2 : ∀ l : List Str, (l.map (·.length)).sum + 2 * l.length = piled l := fun l => by
    induction l with
    | nil => rfl
    | cons t l ih => rw [piled_cons, List.map_cons, List.sum_cons, List.length_cons]; omega
  have := e2 ts
  omega
theorem texts51 {sn : Nat → Option FnI} {n a : Nat} : ∀ {ds : List D}, (∀ d ∈ ds, ∃ t, textN sn d = some t ∧ t.length ≤ a ∧ depthN d ≤ n) → ∃ ts, textNs sn ds = some ts ∧ piled ts ≤ ds.length * (a + 2) ∧ depthNs ds ≤ n
  | [], _ => ⟨[], by unfold textNs; rfl, by simp [piled], by simp [depthNs]⟩
  | d :: ds, h => by
    obtain ⟨t, h1, h2, h3⟩ := h d List.mem_cons_self
    obtain ⟨ts, k1, k2, k3⟩ := texts51 (ds := ds) fun x hx => h x (List.mem_cons_of_mem _ hx)
    refine ⟨t :: ts, ?_, ?_, ?_⟩
    · unfold textNs
      rw [h1, k1]
    · rw [piled_cons, List.length_cons, Nat.succ_mul]
      omega
    · rw [depthNs]
      exact Nat.max_le.mpr ⟨h3, k3⟩
theorem finI_frz {k : Nat} {μ : Sto} {ds : List D} (h : μ[k]? = some (.frz (.lst ds))) : finI itemsOf (.cell k) μ = some (.ok ds, μ) := by
  unfold finI
  have e : toD μ (rt (.cell k)) = some (.lst ds, μ) := by
    show (match μ[k]? with
    | some (.lst ds) => some (D.lst ds, μ.set k (.frz (.lst ds)))
    | some (.frz d) => some (d, μ)
    | _ => none) = _
    rw [h]
  rw [e]
  rfl
theorem text_str {z : Str} (h : (reprText z).length ≤ 100) : textN noSp (.str z) = some (reprText z) := by
  unfold textN
  show (if (reprText z).length ≤ sizeLine then some (reprText z) else none) = _
  rw [if_pos (by rw [sizeLine_eq]; omega)]
theorem text_int {i : Int} (h : i.natAbs < 2 ^ 130) : textN noSp (.int i) = some (Str.ofString (toString i)) := by
  have h2 : i.natAbs.log2 < 1920 := log_of (k := 130) h (show 130 ≤ 1920 by omega) (by decide)
  unfold textN
  show (if i.natAbs.log2 < 1920 then some (Str.ofString (toString i)) else none) = _
  rw [if_pos h2]
theorem mExcI_ap {c n : Nat} {ks ps : List Str} {dfl : List D} {ms kms : List ME} {ρ : En} {μ : Sto} : mExcI c n ks ps dfl ms kms ρ μ = andThen (mArgs ms ρ μ) fun ss μ1 => andThen (mArgs kms ρ μ1) fun ts μ2 => exIK c n ks ps dfl ss ts μ2 := rfl
theorem mExc0_ap {c : Nat} {ρ : En} {μ : Sto} : mExc0 c ρ μ = some (.ok (.val (.exc c [])), μ) := rfl
section
variable {x y : D} {μ : Sto}
theorem x4 : exIK 4 1 [] ["self", "row"] ([] : List D) [.val x] [] μ = some (.ok (.val (.exc 4 [x])), μ) := rfl
theorem x4k : exIK 4 0 ["row"] ["self", "row"] ([] : List D) [] [.val x] μ = some (.ok (.val (.exc 4 [x])), μ) := rfl
theorem x5 : exIK 5 1 [] ["self", "row", "why"] ([.str "form"] : List D) [.val x] [] μ = some (.ok (.val (.exc 5 [.str "form", x])), μ) := rfl
theorem x5b : exIK 5 2 [] ["self", "row", "why"] ([.str "form"] : List D) [.val x, .val y] [] μ = some (.ok (.val (.exc 5 [y, x])), μ) := rfl
theorem x5k : exIK 5 0 ["why", "row"] ["self", "row", "why"] ([.str "form"] : List D) [] [.val y, .val x] μ = some (.ok (.val (.exc 5 [y, x])), μ) := rfl
theorem x5r : exIK 5 0 ["row"] ["self", "row", "why"] ([.str "form"] : List D) [] [.val x] μ = some (.ok (.val (.exc 5 [.str "form", x])), μ) := rfl
theorem x6 : exIK 6 1 [] ["self", "number"] ([] : List D) [.val x] [] μ = some (.ok (.val (.exc 6 [x])), μ) := rfl
theorem x6k : exIK 6 0 ["number"] ["self", "number"] ([] : List D) [] [.val x] μ = some (.ok (.val (.exc 6 [x])), μ) := rfl
theorem x7 : exIK 7 1 [] ["self", "name"] ([] : List D) [.val x] [] μ = some (.ok (.val (.exc 7 [x])), μ) := rfl
theorem x7k : exIK 7 0 ["name"] ["self", "name"] ([] : List D) [] [.val x] μ = some (.ok (.val (.exc 7 [x])), μ) := rfl
theorem x8 : exIK 8 1 [] ["self", "name"] ([] : List D) [.val x] [] μ = some (.ok (.val (.exc 8 [x])), μ) := rfl
theorem x8k : exIK 8 0 ["name"] ["self", "name"] ([] : List D) [] [.val x] μ = some (.ok (.val (.exc 8 [x])), μ) := rfl
end
def subT (c j : Nat) : Bool := decide (c = j) || ((decide (j = 11) && decide (c < 6)) || (decide (j = 12) && (decide (6 ≤ c) && decide (c < 9))))
theorem sub_all : ∀ c < 13, ∀ j < 13, subY tX tXi c j = some (subT c j) := by decide
theorem ty_all : ∀ c < 13, tyY tX tXi c "ValueError" = some (decide (c < 6) || decide (c = 11)) ∧ tyY tX tXi c "LookupError" = some ((decide (6 ≤ c) && decide (c < 9)) || (decide (c = 10) || decide (c = 12))) ∧
    tyY tX tXi c "ZeroDivisionError" = some (decide (c = 9)) ∧ tyY tX tXi c "IndexError" = some (decide (c = 10)) := by decide
theorem isi_c {c j : Nat} {fs : List D} (hc : c < 13) (hj : j < 13) : bIsiY (subY tX tXi) (tyY tX tXi) (bIsi nKit nKit subK) [.exc c fs, .cls j] = some (.val (.bl (subT c j))) := by
  show (subY tX tXi c j).map _ = _
  rw [sub_all c hc j hj]
  rfl
theorem isi_t {c : Nat} {fs : List D} {T : String} {b : Bool} (h : tyY tX tXi c T = some b) : bIsiY (subY tX tXi) (tyY tX tXi) (bIsi nKit nKit subK) [.exc c fs, .ty T] = some (.val (.bl b)) := by
  show (tyY tX tXi c T).map _ = _
  rw [h]
  rfl
def ownL (c : Nat) : List D := [.bl (subT c 0), .bl (subT c 1), .bl (subT c 2), .bl (subT c 3), .bl (subT c 4), .bl (subT c 5), .bl (subT c 6), .bl (subT c 7), .bl (subT c 8), .bl (subT c 9), .bl (subT c 10)]
def famL (c : Nat) : List D := [.bl (subT c 11), .bl (decide (c < 6) || decide (c = 11)), .bl (subT c 12), .bl ((decide (6 ≤ c) && decide (c < 9)) || (decide (c = 10) || decide (c = 12))), .bl (decide (c = 9)), .bl (decide (c = 10))]
theorem own_call {c : Nat} {fs : List D} {μ : Sto} (hc : c < 13) : callF fi_l_own 1 [] [.val (.exc c fs)] [] μ = some (.ok (.fr (ownL c)), μ) := by
  rw [cl_l_own_1, sem_l_own]
  unfold c_l_own
  have i0 := isi_c (j := 0) (fs := fs) hc (by decide)
  have i1 := isi_c (j := 1) (fs := fs) hc (by decide)
  have i2 := isi_c (j := 2) (fs := fs) hc (by decide)
  have i3 := isi_c (j := 3) (fs := fs) hc (by decide)
  have i4 := isi_c (j := 4) (fs := fs) hc (by decide)
  have i5 := isi_c (j := 5) (fs := fs) hc (by decide)
  have i6 := isi_c (j := 6) (fs := fs) hc (by decide)
  have i7 := isi_c (j := 7) (fs := fs) hc (by decide)
  have i8 := isi_c (j := 8) (fs := fs) hc (by decide)
  have i9 := isi_c (j := 9) (fs := fs) hc (by decide)
  have i10 := isi_c (j := 10) (fs := fs) hc (by decide)
  have a44 : ∀ a b c d e f g h : D, dAdd (.lst [a, b, c, d]) (.lst [e, f, g, h]) = some (.fr [a, b, c, d, e, f, g, h]) := fun _ _ _ _ _ _ _ _ => Sz.add_ll (by show 4 + 4 ≤ 1000; decide)
  have a83 : ∀ a b c d e f g h i j k : D, dAdd (.lst [a, b, c, d, e, f, g, h]) (.lst [i, j, k]) = some (.fr [a, b, c, d, e, f, g, h, i, j, k]) := fun _ _ _ _ _ _ _ _ _ _ _ => Sz.add_ll (by show 8 + 3 ≤ 1000; decide)
  simp only [ev, List.getElem?_cons_zero, List.getElem?_cons_succ, List.set_cons_zero, List.set_cons_succ, decide_eq_true_eq, Bool.not_eq_true', decide_eq_false_iff_not, Nat.reduceAdd, Bool.not_true, Bool.not_false, Option.map_some, Option.map_none, i0, i1, i2, i3, i4, i5, i6, i7, i8, i9, i10, a44, a83, List.take_length]
  try rfl
theorem fam_call {c : Nat} {fs : List D} {μ : Sto} (hc : c < 13) : callF fi_l_families 1 [] [.val (.exc c fs)] [] μ = some (.ok (.fr (famL c)), μ) := by
  rw [cl_l_families_1, sem_l_families]
  unfold c_l_families
  obtain ⟨t1, t2, t3, t4⟩ := ty_all c hc
  have i11 := isi_c (j := 11) (fs := fs) hc (by decide)
  have i12 := isi_c (j := 12) (fs := fs) hc (by decide)
  have j1 := isi_t (fs := fs) t1
  have j2 := isi_t (fs := fs) t2
  have j3 := isi_t (fs := fs) t3
  have j4 := isi_t (fs := fs) t4
  have a33 : ∀ a b c d e f : D, dAdd (.lst [a, b, c]) (.lst [d, e, f]) = some (.fr [a, b, c, d, e, f]) := fun _ _ _ _ _ _ => Sz.add_ll (by show 3 + 3 ≤ 1000; decide)
  simp only [ev, List.getElem?_cons_zero, List.getElem?_cons_succ, List.set_cons_zero, List.set_cons_succ, decide_eq_true_eq, Bool.not_eq_true', decide_eq_false_iff_not, Nat.reduceAdd, Bool.not_true, Bool.not_false, Option.map_some, Option.map_none, i11, i12, j1, j2, j3, j4, a33, List.take_length]
  try rfl
def bls (l : List Bool) : List D := l.map D.bl
theorem toPys_bls : ∀ l : List Bool, toPys (bls l) = some (l.map PyData.bool)
  | [] => rfl
  | b :: l => by
    show toPys (D.bl b :: bls l) = _
    unfold toPys
    rw [toPys_bls l]
    rfl
theorem eqv_bls : ∀ l : List Bool, PyData.eqvAll (l.map PyData.bool) (l.map PyData.bool) = true
  | [] => by simp [PyData.eqvAll]
  | b :: l => by
    rw [List.map_cons]
    unfold PyData.eqvAll
    rw [eqv_bls l, Bool.and_true]
    cases b <;> (unfold PyData.eqv; rfl)
theorem ne_bls {l : List Bool} (hl : l.length ≤ 100) : dNe (.lst (bls l)) (.lst (bls l)) = some (.val (.bl false)) := by
  have c1 : ∀ l : List Bool, PyData.canLayAll0 (l.map PyData.bool) = true := fun l => by
    induction l with
    | nil => simp [PyData.canLayAll0]
    | cons b l ih =>
      rw [List.map_cons]
      unfold PyData.canLayAll0
      rw [ih]
      simp [PyData.canLay0]
  have c2 : ∀ l : List Bool, PyData.depthAll (l.map PyData.bool) ≤ 1 := fun l => by
    induction l with
    | nil => simp [PyData.depthAll]
    | cons b l ih =>
      rw [List.map_cons]
      unfold PyData.depthAll
      simp only [PyData.depth]
      omega
  have c2 := c2 l
  have hp : toPy (.lst (bls l)) = some (.list (l.map PyData.bool)) := by
    unfold toPy
    rw [toPys_bls]
  have hs : SeqAt.shaped (.list (l.map PyData.bool)) = true := by
    unfold SeqAt.shaped PyData.canLay0 PyData.depth
    rw [c1, Bool.true_and, decide_eq_true_eq]
    omega
  have hq : pyEq (.lst (bls l)) (.lst (bls l)) = some true := by
    unfold pyEq
    rw [hp]
    dsimp only
    rw [hs]
    show some (PyData.eqv _ _) = _
    unfold PyData.eqv
    rw [eqv_bls]
  show (match pyEq (.lst (bls l)) (.lst (bls l)) with
    | some b => (some (.val (.bl (!b))) : Option S)
    | none => (eqEmp (.lst (bls l)) (.lst (bls l))).map fun b => (.val (.bl (!b)) : S)) = _
  rw [hq]
  rfl
theorem own_row : ∀ c < 11, ownL c = (rangeD 0 11).map fun d => match d with | .int j => .bl (decide ((c : Int) = j)) | d => d := by
  intro c hc
  have : c = 0 ∨ c = 1 ∨ c = 2 ∨ c = 3 ∨ c = 4 ∨ c = 5 ∨ c = 6 ∨ c = 7 ∨ c = 8 ∨ c = 9 ∨ c = 10 := by omega
  rcases this with rfl | rfl | rfl | rfl | rfl | rfl | rfl | rfl | rfl | rfl | rfl <;> rfl
theorem own_bls (c : Nat) : ∃ l : List Bool, ownL c = bls l ∧ l.length = 11 := ⟨[subT c 0, subT c 1, subT c 2, subT c 3, subT c 4, subT c 5, subT c 6, subT c 7, subT c 8, subT c 9, subT c 10], rfl, rfl⟩
theorem fam_bls (c : Nat) : ∃ l : List Bool, famL c = bls l ∧ l.length = 6 := ⟨[subT c 11, decide (c < 6) || decide (c = 11), subT c 12, (decide (6 ≤ c) && decide (c < 9)) || (decide (c = 10) || decide (c = 12)), decide (c = 9), decide (c = 10)], rfl, rfl⟩
section
variable {s0 s3 s4 : Option S} {μ : Sto}
theorem due_step {c : Nat} (hc : c < 11) {s2 : Option S} : sAsg (gNm 4 false) (mList [mOp2 dLt (mVar 1) (mK (.int 6)), mOp2 dLt (mVar 1) (mK (.int 6)), mChain dLe dLt (mK (.int 6)) (mVar 1) (mK (.int 9)), mOr (mChain dLe dLt (mK (.int 6)) (mVar 1) (mK (.int 9))) (mOp2 dEq (mVar 1) (mK (.int 10))), mOp2 dEq (mVar 1) (mK (.int 9)), mOp2 dEq (mVar 1) (mK (.int 10))]) [s0, some (.val (.int (c : Int))), s2, s3, s4] μ =
    some (.nx, [s0, some (.val (.int (c : Int))), s2, s3, some (.val (.lst (famL c)))], μ) := by
  have : c = 0 ∨ c = 1 ∨ c = 2 ∨ c = 3 ∨ c = 4 ∨ c = 5 ∨ c = 6 ∨ c = 7 ∨ c = 8 ∨ c = 9 ∨ c = 10 := by omega
  rcases this with rfl | rfl | rfl | rfl | rfl | rfl | rfl | rfl | rfl | rfl | rfl <;> rfl
theorem kinds_b1 {c : Nat} {fs : List D} (hc : c < 11) : ∃ y3 y4, c_l_kinds_right_b1 [s0, some (.val (.int (c : Int))), some (.val (.exc c fs)), s3, s4] μ = some (.nx, [s0, some (.val (.int (c : Int))), some (.val (.exc c fs)), y3, y4], μ) := by
  have e1 := own_call (fs := fs) (μ := μ) (show c < 13 by omega)
  have e2 := fam_call (fs := fs) (μ := μ) (show c < 13 by omega)
  have cp : mComp (iRange1 (mK (.int 11))) (gNm 3 false) tTrue (mOp2 dEq (mVar 1) (mVar 3)) [3] [s0, some (.val (.int (c : Int))), some (.val (.exc c fs)), s3, s4] μ = some (.ok (.fr (ownL c)), μ) := by
    rw [own_row c hc]
    refine comp_map' (ds := rangeD 0 11) _ (iRange1_to (n := 11) (by simp only [ev, List.getElem?_cons_zero, List.getElem?_cons_succ, List.set_cons_zero, List.set_cons_succ, decide_eq_true_eq, Bool.not_eq_true', decide_eq_false_iff_not, Nat.reduceAdd, Bool.not_true, Bool.not_false, Option.map_some, Option.map_none]; rfl) (by omega)) (by rw [rangeD_len]; omega) fun d hd ν => ?_
    obtain ⟨i, _, rfl⟩ := rangeD_mem' hd
    refine ⟨_, rfl, ?_⟩
    simp only [ev, List.getElem?_cons_zero, List.getElem?_cons_succ, List.set_cons_zero, List.set_cons_succ, decide_eq_true_eq, Bool.not_eq_true', decide_eq_false_iff_not, Nat.reduceAdd, Bool.not_true, Bool.not_false, Option.map_some, Option.map_none, wipeE]
  obtain ⟨l1, h1, z1⟩ := own_bls c
  obtain ⟨l2, h2, z2⟩ := fam_bls c
  have n1 := ne_bls (l := l1) (by omega)
  have n2 := ne_bls (l := l2) (by omega)
  have du := due_step (s0 := s0) (s3 := s3) (s4 := s4) (s2 := some (.val (.exc c fs))) (μ := μ) hc
  rw [h1] at e1 cp
  rw [h2] at e2 du
  refine ⟨s3, some (.val (.lst (bls l2))), ?_⟩
  unfold c_l_kinds_right_b1
  simp only [ev, List.getElem?_cons_zero, List.getElem?_cons_succ, List.set_cons_zero, List.set_cons_succ, decide_eq_true_eq, Bool.not_eq_true', decide_eq_false_iff_not, Nat.reduceAdd, Bool.not_true, Bool.not_false, Option.map_some, Option.map_none, e1, cp, n1, ↓du, e2, n2]
  try rfl
theorem kinds_call {E : List D} (h : ∀ (i : Nat) (d : D), E[i]? = some d → ∃ fs, d = .exc i fs) (hl : E.length = 11) : callF fi_l_kinds_right 1 [] [.val (.lst E)] [] μ = some (.ok (.val (.bl true)), μ) := by
  rw [cl_l_kinds_right_1, sem_l_kinds_right]
  unfold c_l_kinds_right
  have it : ∀ (r : List (Option S)) (ν : Sto), iEnum2 (mVar 0) (some (.val (.lst E)) :: r) ν = some (.ok (enumD 0 E), ν) := fun r ν => rfl
  obtain ⟨ρ', μ', e, x1, x2, x3, x4, rfl, rfl⟩ := floop_ix (t := gTu [gNm 1 false, gNm 2 false]) (b := c_l_kinds_right_b1) (fun j ρ ν => ∃ x1 x2 x3 x4 : Option S, ρ = [some (.val (.lst E)), x1, x2, x3, x4] ∧ μ = ν) (enumD 0 E) 0 [some (.val (.lst E)), none, none, none, none] μ (fun i x ρ ν hx hI => by
    obtain ⟨d, hd, rfl⟩ := enumD_get hx
    obtain ⟨x1, x2, x3, x4, rfl, rfl⟩ := hI
    obtain ⟨fs, rfl⟩ := h i d hd
    have hi : i < 11 := by
      have := (List.getElem?_eq_some_iff.mp hd).1
      omega
    rw [Nat.zero_add]
    obtain ⟨y3, y4, eb⟩ := kinds_b1 (s0 := some (.val (.lst E))) (s3 := x3) (s4 := x4) (fs := fs) (μ := μ) hi
    exact ⟨_, _, rfl, _, _, eb, _, _, _, _, rfl, rfl⟩) ⟨none, none, none, none, rfl, rfl⟩
  simp only [ev, List.getElem?_cons_zero, List.getElem?_cons_succ, List.set_cons_zero, List.set_cons_succ, decide_eq_true_eq, Bool.not_eq_true', decide_eq_false_iff_not, Nat.reduceAdd, Bool.not_true, Bool.not_false, Option.map_some, Option.map_none, it, e, List.take_length]
  try rfl
end
def TxT (d : D) : Prop := ∃ t, textN noSp d = some t ∧ t.length ≤ 140 ∧ depthN d ≤ 1
theorem tx_str {z : Str} (h : (reprText z).length ≤ 100) : TxT (.str z) := ⟨_, text_str h, by omega, by unfold depthN; decide⟩
theorem tx_int {i : Int} (h : i.natAbs < 2 ^ 130) : TxT (.int i) := ⟨_, text_int h, by
  have : (Str.ofString (toString i)).length ≤ 130 + 1 := shown_int_len (k := 130) (by decide) h
  omega, by unfold depthN; decide⟩
def leaf74 : List D := [.non, .bl true, .int 0, .int 7, .int (-1), .int (10 ^ 30), .str "", .str "land", .str "a b", .tup [.int 1, .int 2], .tup [], .lst [.int 1], .dic [] [], .tup [.non, .str "x"]]
theorem leaf_tx {d : D} (h : d ∈ leaf74) : TxT d := by
  unfold leaf74 at h
  simp only [List.mem_cons, List.not_mem_nil, or_false] at h
  have t1 : textN noSp (.int 1) = some (Str.ofString (toString (1 : Int))) := text_int (by decide)
  have t2 : textN noSp (.int 2) = some (Str.ofString (toString (2 : Int))) := text_int (by decide)
  rcases h with rfl | rfl | rfl | rfl | rfl | rfl | rfl | rfl | rfl | rfl | rfl | rfl | rfl | rfl
  · exact ⟨"None", by unfold textN; rfl, by decide, by unfold depthN; decide⟩
  · exact ⟨"True", by unfold textN; rfl, by decide, by unfold depthN; decide⟩
  · exact tx_int (by decide)
  · exact tx_int (by decide)
  · exact tx_int (by decide)
  · exact tx_int (by decide)
  · exact tx_str (by decide +kernel)
  · exact tx_str (by decide +kernel)
  · exact tx_str (by decide +kernel)
  · refine ⟨tupleText [Str.ofString (toString (1 : Int)), Str.ofString (toString (2 : Int))], ?_, by decide +kernel, by unfold depthN depthNs depthNs depthNs depthN; decide⟩
    unfold textN textNs textNs textNs
    rw [t1, t2]
    rfl
  · exact ⟨tupleText [], by unfold textN textNs; rfl, by decide +kernel, by unfold depthN depthNs; decide⟩
  · refine ⟨listText [Str.ofString (toString (1 : Int))], ?_, by decide +kernel, by unfold depthN depthNs depthNs depthN; decide⟩
    unfold textN textNs textNs
    rw [t1]
    rfl
  · exact ⟨dictText [], by unfold textN textNs; rfl, by decide +kernel, by unfold depthN depthNs; decide⟩
  · refine ⟨tupleText ["None", reprText "x"], ?_, by decide +kernel, by unfold depthN depthNs depthNs depthNs depthN; decide⟩
    unfold textN textNs textNs textNs
    rw [text_str (by decide +kernel), show textN noSp .non = some "None" from by unfold textN; rfl]
    rfl
theorem list_tx {ds : List D} (h : ∀ d ∈ ds, TxT d) (hl : ds.length ≤ 8) : ∃ t, textN noSp (.lst ds) = some t ∧ t.length ≤ 1400 ∧ depthN (.lst ds) ≤ 2 := by
  obtain ⟨ts, h1, h2, h3⟩ := texts51 (sn := noSp) (n := 1) (a := 140) h
  have hm : ds.length * (140 + 2) ≤ 8 * 142 := Nat.mul_le_mul_right _ hl
  refine ⟨listText ts, ?_, ?_, ?_⟩
  · unfold textN
    rw [h1]
    rfl
  · have := list_text_len ts
    omega
  · unfold depthN
    omega
theorem lists_repr {Ls : List (List D)} (h : ∀ ds ∈ Ls, ds.length ≤ 8 ∧ ∀ d ∈ ds, TxT d) (hl : Ls.length ≤ 8) : ∃ s : Str, bReprN noSp noSp [.lst (Ls.map D.lst)] = some (.val (.str s)) := by
  obtain ⟨ts, h1, h2, h3⟩ := texts51 (sn := noSp) (n := 2) (a := 1400) (ds := Ls.map D.lst) fun d hd => by
    obtain ⟨ds, hds, rfl⟩ := List.mem_map.mp hd
    obtain ⟨a, b⟩ := h ds hds
    exact list_tx b a
  rw [List.length_map] at h2
  have hm : Ls.length * (1400 + 2) ≤ 8 * 1402 := Nat.mul_le_mul_right _ hl
  refine ⟨listText ts, reprN_lst ?_ ?_ ?_⟩
  · unfold textN
    rw [h1]
    rfl
  · have := list_text_len ts
    rw [sizeLine_eq]
    omega
  · unfold depthN
    omega
theorem finI_lstC {k : Nat} {μ : Sto} {ds : List D} (h : μ[k]? = some (.lst ds)) : finI itemsOf (.cell k) μ = some (.ok ds, μ.set k (.frz (.lst ds))) := by
  unfold finI
  have e : toD μ (rt (.cell k)) = some (.lst ds, μ.set k (.frz (.lst ds))) := by
    unfold toD
    dsimp only [rt]
    rw [h]
  rw [e]
  rfl
def fldX (f : Str) : D → D
  | .exc c fs => (((xflOf tXi).lookup c).bind fun l => (l.zip fs).lookup f).getD .non
  | d => d
theorem attr_comp {i : MI} {f : Str} {s0 s1 s2 s3 s4 s5 s6 s7 s8 s9 s10 s11 s12 s13 : Option S} {μ μ1 : Sto} {ds : List D} (hi : i [s0, s1, s2, s3, s4, s5, s6, s7, s8, s9, s10, s11, s12, s13] μ = some (.ok ds, μ1)) (hl : ds.length ≤ 100)
    (h : ∀ d ∈ ds, ∃ c fs, d = .exc c fs ∧ ∀ ν : Sto, atX (xflOf tXi) f c fs ν = some (.ok (.val (fldX f d)), ν)) : mComp i (gNm 12 false) tTrue (mAttrX (xflOf tXi) tFls f (mVar 12)) [12] [s0, s1, s2, s3, s4, s5, s6, s7, s8, s9, s10, s11, s12, s13] μ = some (.ok (.fr (ds.map (fldX f))), μ1) := by
  refine comp_map' (fldX f) hi (by omega) fun d hd ν => ?_
  obtain ⟨c, fs, rfl, ha⟩ := h d hd
  refine ⟨_, rfl, ?_⟩
  simp only [ev, List.getElem?_cons_zero, List.getElem?_cons_succ, List.set_cons_zero, List.set_cons_succ, decide_eq_true_eq, Bool.not_eq_true', decide_eq_false_iff_not, Nat.reduceAdd, Bool.not_true, Bool.not_false, Option.map_some, Option.map_none, wipeE, ha]
section
variable {k n : Nat} {μ : Sto}
theorem thing_call (h : HandAt μ k n) (hn : n < 2 ^ 190) : ∃ d μ', callF fi_l_thing 1 [] [.cell k] [] μ = some (.ok (.val d), μ') ∧ d ∈ leaf74 ∧ HandAt μ' k (n + 1) ∧ Upd k μ μ' := by
  rw [cl_l_thing_1, sem_l_thing]
  unfold c_l_thing
  obtain ⟨i, μ1, e1, i0, i1, H1, u1⟩ := take_call (m := 14) h (by decide) (by unfold Bd; decide) (by omega)
  obtain ⟨d, hd, hm⟩ := atI_mem (l := leaf74) (i := i) i0 (by show i < 14; exact i1)
  have p30 : dPow (.int 10) (.int 30) = some (.val (.int (10 ^ 30))) := pow_ii 4 (by unfold Bd; decide) (by decide) (by decide)
  have ng : dNeg (.int 1) = some (.val (.int (-1))) := rfl
  have d0 : ∀ (r : En) (ν : Sto), mDicK [] [] r ν = some (.ok (.val (.dic [] [])), ν) := fun r ν => rfl
  have f1 : ∀ (x : D) (ν : Sto), finL [.val x] ν = some (.ok (.fr [x]), ν) := fun _ ν => rfl
  have ft2 : ∀ (x y : D) (ν : Sto), finT [.val x, .val y] ν = some (.ok (.val (.tup [x, y])), ν) := fun _ _ ν => rfl
  have ft0 : ∀ ν : Sto, finT [] ν = some (.ok (.val (.tup [])), ν) := fun ν => rfl
  have fl : ∀ ν : Sto, finL [.val .non, .val (.bl true), .val (.int 0), .val (.int 7), .val (.int (-1)), .val (.int (10 ^ 30)), .val (.str ""), .val (.str "land"), .val (.str "a b"), .val (.tup [.int 1, .int 2]), .val (.tup []), .fr [.int 1], .val (.dic [] []), .val (.tup [.non, .str "x"])] ν = some (.ok (.fr leaf74), ν) := fun ν => rfl
  have fl2 : ∀ ν : Sto, finL [.val .non, .val (.bl true), .val (.int 0), .val (.int 7), .val (.int (-1)), .val (.int (10 ^ 30)), .val (.str ""), .val (.str "land"), .val (.str "a b"), .val (.tup [.int 1, .int 2]), .val (.tup []), .val (.lst [.int 1]), .val (.dic [] []), .val (.tup [.non, .str "x"])] ν = some (.ok (.fr leaf74), ν) := fun ν => rfl
  have ix : dIx (.lst leaf74) (.int i) = some (.val d) := by rw [ix_lst, hd]; rfl
  refine ⟨d, μ1, ?_, hm, H1, u1⟩
  simp only [ev, List.getElem?_cons_zero, List.getElem?_cons_succ, List.set_cons_zero, List.set_cons_succ, decide_eq_true_eq, Bool.not_eq_true', decide_eq_false_iff_not, Nat.reduceAdd, Bool.not_true, Bool.not_false, Option.map_some, Option.map_none, p30, ng, d0, f1, ft2, ft0, fl, fl2, e1, ix, u1.take]
theorem values_call (h : HandAt μ k n) (hn : n < 2 ^ 180) : ∃ μ', callF fi_l_values_right 1 [] [.cell k] [] μ = some (.ok (.val (.bl true)), μ') := by
  rw [cl_l_values_right_1, sem_l_values_right]
  unfold c_l_values_right
  obtain ⟨a, μ1, e1, ha, H1, u1⟩ := thing_call h (by omega)
  obtain ⟨b, μ2, e2, hb, H2, u2⟩ := thing_call H1 (by omega)
  obtain ⟨c, μ3, e3, hc, H3, u3⟩ := thing_call H2 (by omega)
  obtain ⟨x, μ4, e4, x0, x1, H4, u4⟩ := take_call (m := 10 ^ 6) H3 (by decide) (by unfold Bd; decide) (by omega)
  obtain ⟨y, μ5, e5, y0, y1, H5, u5⟩ := take_call (m := 9) H4 (by decide) (by unfold Bd; decide) (by omega)
  have p6 : dPow (.int 10) (.int 6) = some (.val (.int (10 ^ 6))) := pow_ii 4 (by unfold Bd; decide) (by decide) (by decide)
  have tx : TxT (.int x) := tx_int (by omega)
  have ty : TxT (.int y) := tx_int (by omega)
  have ta := leaf_tx ha
  have tb := leaf_tx hb
  have tc := leaf_tx hc
  have tf : TxT (.str "form") := tx_str (by decide +kernel)
  have ts : TxT (.str "slip") := tx_str (by decide +kernel)
  have tn : TxT (.str "span") := tx_str (by decide +kernel)
  obtain ⟨t, rp⟩ := lists_repr (Ls := [[.int x, .int y], [.int x, .int y, .int x, .int y], [.str "form", .str "slip", .str "span", .str "form"], [a, b], [b, c], [c, a]]) (fun ds hd => by
    simp only [List.mem_cons, List.not_mem_nil, or_false] at hd
    rcases hd with rfl | rfl | rfl | rfl | rfl | rfl
    all_goals refine ⟨by show _ ≤ 8; simp, fun d hd => ?_⟩
    all_goals simp only [List.mem_cons, List.not_mem_nil, or_false] at hd
    · rcases hd with rfl | rfl <;> assumption
    · rcases hd with rfl | rfl | rfl | rfl <;> assumption
    · rcases hd with rfl | rfl | rfl | rfl <;> assumption
    · rcases hd with rfl | rfl <;> assumption
    · rcases hd with rfl | rfl <;> assumption
    · rcases hd with rfl | rfl <;> assumption) (by show 6 ≤ 8; decide)
  have rp : bReprN noSp noSp [.lst [.lst [.int x, .int y], .lst [.int x, .int y, .int x, .int y], .lst [.str "form", .str "slip", .str "span", .str "form"], .lst [a, b], .lst [b, c], .lst [c, a]]] = some (.val (.str t)) := rp
  have v2 : ∀ (p q : D) (ν : Sto), finL [.val p, .val q] ν = some (.ok (.fr [p, q]), ν) := fun _ _ ν => rfl
  have v1 : ∀ (p : D) (ν : Sto), finL [.val p] ν = some (.ok (.fr [p]), ν) := fun _ ν => rfl
  have v3 : ∀ (p q r : D) (ν : Sto), finL [.val p, .val q, .val r] ν = some (.ok (.fr [p, q, r]), ν) := fun _ _ _ ν => rfl
  have v4 : ∀ (p q r z : D) (ν : Sto), finL [.val p, .val q, .val r, .val z] ν = some (.ok (.fr [p, q, r, z]), ν) := fun _ _ _ _ ν => rfl
  have w1 : ∀ (p : List D) (ν : Sto), finL [.fr p] ν = some (.ok (.fr [.lst p]), ν) := fun _ ν => rfl
  have w2 : ∀ (p q : List D) (ν : Sto), finL [.fr p, .fr q] ν = some (.ok (.fr [.lst p, .lst q]), ν) := fun _ _ ν => rfl
  have w4 : ∀ (p q r z : List D) (ν : Sto), finL [.fr p, .fr q, .fr r, .fr z] ν = some (.ok (.fr [.lst p, .lst q, .lst r, .lst z]), ν) := fun _ _ _ _ ν => rfl
  have w5 : ∀ (p q r z v : List D) (ν : Sto), finL [.fr p, .fr q, .fr r, .fr z, .fr v] ν = some (.ok (.fr [.lst p, .lst q, .lst r, .lst z, .lst v]), ν) := fun _ _ _ _ _ ν => rfl
  have y1' : ∀ (p : D) (ν : Sto), finL [.val (.lst [p])] ν = some (.ok (.fr [.lst [p]]), ν) := fun _ ν => rfl
  have la3 : ∀ p q r z : D, lApp [p, q, r] [z] = some (.non, [p, q, r, z]) := fun p q r z => lApp_ok (by show 3 < 1000; decide)
  have la1 : ∀ p z : D, lApp [p] [z] = some (.non, [p, z]) := fun p z => lApp_ok (by show 1 < 1000; decide)
  have a42 : ∀ a b c d e f : D, dAdd (.lst [a, b, c, d]) (.lst [e, f]) = some (.fr [a, b, c, d, e, f]) := fun _ _ _ _ _ _ => Sz.add_ll (by show 4 + 2 ≤ 1000; decide)
  have a51 : ∀ a b c d e f : D, dAdd (.lst [a, b, c, d, e]) (.lst [f]) = some (.fr [a, b, c, d, e, f]) := fun _ _ _ _ _ _ => Sz.add_ll (by show 5 + 1 ≤ 1000; decide)
  have g1 : ∀ p q : C, (μ5 ++ [p] ++ [q])[μ5.length]? = some p := fun p q => by rw [List.append_assoc, List.getElem?_append_right (Nat.le_refl _), Nat.sub_self]; rfl
  -- the fields
  have at4 : ∀ (p : D) (ν : Sto), atX (xflOf tXi) "row" 4 [p] ν = some (.ok (.val p), ν) := fun _ _ => rfl
  have at5 : ∀ (p q : D) (ν : Sto), atX (xflOf tXi) "row" 5 [p, q] ν = some (.ok (.val q), ν) := fun _ _ _ => rfl
  have at5w : ∀ (p q : D) (ν : Sto), atX (xflOf tXi) "why" 5 [p, q] ν = some (.ok (.val p), ν) := fun _ _ _ => rfl
  have at6 : ∀ (p : D) (ν : Sto), atX (xflOf tXi) "number" 6 [p] ν = some (.ok (.val p), ν) := fun _ _ => rfl
  have at7 : ∀ (p : D) (ν : Sto), atX (xflOf tXi) "name" 7 [p] ν = some (.ok (.val p), ν) := fun _ _ => rfl
  have at8 : ∀ (p : D) (ν : Sto), atX (xflOf tXi) "name" 8 [p] ν = some (.ok (.val p), ν) := fun _ _ => rfl
  have m6 : ∀ (s0 s1 s2 s3 s4 s5 s7 s8 s9 s10 s11 s12 s13 : Option S) (ν : Sto), mComp (iVal (mVar 6)) (gNm 12 false) tTrue (mAttrX (xflOf tXi) tFls "row" (mVar 12)) [12] [s0, s1, s2, s3, s4, s5, some (.val (.lst [.exc 4 [.int x], .exc 4 [.int y]])), s7, s8, s9, s10, s11, s12, s13] ν = some (.ok (.fr [.int x, .int y]), ν) := fun s0 s1 s2 s3 s4 s5 s7 s8 s9 s10 s11 s12 s13 ν => by
    refine attr_comp (ds := [.exc 4 [.int x], .exc 4 [.int y]]) (by simp only [ev, List.getElem?_cons_zero, List.getElem?_cons_succ, List.set_cons_zero, List.set_cons_succ, decide_eq_true_eq, Bool.not_eq_true', decide_eq_false_iff_not, Nat.reduceAdd, Bool.not_true, Bool.not_false, Option.map_some, Option.map_none]) (by show 2 ≤ 100; decide) fun d hd => ?_
    simp only [List.mem_cons, List.not_mem_nil, or_false] at hd
    rcases hd with rfl | rfl <;> exact ⟨_, _, rfl, fun ν => rfl⟩
  have m8 : ∀ (s0 s1 s2 s3 s4 s5 s6 s7 s9 s10 s11 s12 s13 : Option S) (ν : Sto), mComp (iVal (mVar 8)) (gNm 12 false) tTrue (mAttrX (xflOf tXi) tFls "number" (mVar 12)) [12] [s0, s1, s2, s3, s4, s5, s6, s7, some (.val (.lst [.exc 6 [a], .exc 6 [b]])), s9, s10, s11, s12, s13] ν = some (.ok (.fr [a, b]), ν) := fun s0 s1 s2 s3 s4 s5 s6 s7 s9 s10 s11 s12 s13 ν => by
    refine attr_comp (ds := [.exc 6 [a], .exc 6 [b]]) (by simp only [ev, List.getElem?_cons_zero, List.getElem?_cons_succ, List.set_cons_zero, List.set_cons_succ, decide_eq_true_eq, Bool.not_eq_true', decide_eq_false_iff_not, Nat.reduceAdd, Bool.not_true, Bool.not_false, Option.map_some, Option.map_none]) (by show 2 ≤ 100; decide) fun d hd => ?_
    simp only [List.mem_cons, List.not_mem_nil, or_false] at hd
    rcases hd with rfl | rfl <;> exact ⟨_, _, rfl, fun ν => rfl⟩
  have m9 : ∀ (s0 s1 s2 s3 s4 s5 s6 s7 s8 s10 s11 s12 s13 : Option S) (ν : Sto), mComp (iVal (mVar 9)) (gNm 12 false) tTrue (mAttrX (xflOf tXi) tFls "name" (mVar 12)) [12] [s0, s1, s2, s3, s4, s5, s6, s7, s8, some (.val (.lst [.exc 7 [b], .exc 7 [c]])), s10, s11, s12, s13] ν = some (.ok (.fr [b, c]), ν) := fun s0 s1 s2 s3 s4 s5 s6 s7 s8 s10 s11 s12 s13 ν => by
    refine attr_comp (ds := [.exc 7 [b], .exc 7 [c]]) (by simp only [ev, List.getElem?_cons_zero, List.getElem?_cons_succ, List.set_cons_zero, List.set_cons_succ, decide_eq_true_eq, Bool.not_eq_true', decide_eq_false_iff_not, Nat.reduceAdd, Bool.not_true, Bool.not_false, Option.map_some, Option.map_none]) (by show 2 ≤ 100; decide) fun d hd => ?_
    simp only [List.mem_cons, List.not_mem_nil, or_false] at hd
    rcases hd with rfl | rfl <;> exact ⟨_, _, rfl, fun ν => rfl⟩
  have fz : ∀ (p : List D) (q : C), (μ5 ++ [C.lst p] ++ [q]).set μ5.length (C.frz (.lst p)) = μ5 ++ [C.frz (.lst p)] ++ [q] := fun p q => by
    rw [List.append_assoc, List.append_assoc, List.set_append_right _ _ (Nat.le_refl _), Nat.sub_self]
    rfl
  have nx : ∀ d ∈ ([.exc 5 [.str "form", .int x], .exc 5 [.str "slip", .int y], .exc 5 [.str "span", .int x], .exc 5 [.str "form", .int y]] : List D), ∃ c fs, d = .exc c fs ∧ ∀ ν : Sto, atX (xflOf tXi) "row" c fs ν = some (.ok (.val (fldX "row" d)), ν) := fun d hd => by
    simp only [List.mem_cons, List.not_mem_nil, or_false] at hd
    rcases hd with rfl | rfl | rfl | rfl <;> exact ⟨_, _, rfl, fun ν => rfl⟩
  have nw : ∀ d ∈ ([.exc 5 [.str "form", .int x], .exc 5 [.str "slip", .int y], .exc 5 [.str "span", .int x], .exc 5 [.str "form", .int y]] : List D), ∃ c fs, d = .exc c fs ∧ ∀ ν : Sto, atX (xflOf tXi) "why" c fs ν = some (.ok (.val (fldX "why" d)), ν) := fun d hd => by
    simp only [List.mem_cons, List.not_mem_nil, or_false] at hd
    rcases hd with rfl | rfl | rfl | rfl <;> exact ⟨_, _, rfl, fun ν => rfl⟩
  have iv1 : ∀ (ds : List D) (q : C), finI itemsOf (.cell μ5.length) (μ5 ++ [.lst ds] ++ [q]) = some (.ok ds, μ5 ++ [.frz (.lst ds)] ++ [q]) := fun ds q => by
    rw [finI_lstC (g1 _ _), fz]
  have iv2 : ∀ (ds : List D) (q : C), finI itemsOf (.cell μ5.length) (μ5 ++ [.frz (.lst ds)] ++ [q]) = some (.ok ds, μ5 ++ [.frz (.lst ds)] ++ [q]) := fun ds q => finI_frz (g1 _ _)
  have m7r : ∀ (s0 s1 s2 s3 s4 s5 s6 s8 s9 s10 s11 s12 s13 : Option S) (q : C), mComp (iVal (mVar 7)) (gNm 12 false) tTrue (mAttrX (xflOf tXi) tFls "row" (mVar 12)) [12] [s0, s1, s2, s3, s4, s5, s6, some (.cell μ5.length), s8, s9, s10, s11, s12, s13] (μ5 ++ [.lst [.exc 5 [.str "form", .int x], .exc 5 [.str "slip", .int y], .exc 5 [.str "span", .int x], .exc 5 [.str "form", .int y]]] ++ [q]) = some (.ok (.fr [.int x, .int y, .int x, .int y]), μ5 ++ [.frz (.lst [.exc 5 [.str "form", .int x], .exc 5 [.str "slip", .int y], .exc 5 [.str "span", .int x], .exc 5 [.str "form", .int y]])] ++ [q]) := fun s0 s1 s2 s3 s4 s5 s6 s8 s9 s10 s11 s12 s13 q =>
    attr_comp (ds := [.exc 5 [.str "form", .int x], .exc 5 [.str "slip", .int y], .exc 5 [.str "span", .int x], .exc 5 [.str "form", .int y]]) (by simp only [ev, List.getElem?_cons_zero, List.getElem?_cons_succ, List.set_cons_zero, List.set_cons_succ, decide_eq_true_eq, Bool.not_eq_true', decide_eq_false_iff_not, Nat.reduceAdd, Bool.not_true, Bool.not_false, Option.map_some, Option.map_none, iv1]) (by show 4 ≤ 100; decide) nx
  have m7w : ∀ (s0 s1 s2 s3 s4 s5 s6 s8 s9 s10 s11 s12 s13 : Option S) (q : C), mComp (iVal (mVar 7)) (gNm 12 false) tTrue (mAttrX (xflOf tXi) tFls "why" (mVar 12)) [12] [s0, s1, s2, s3, s4, s5, s6, some (.cell μ5.length), s8, s9, s10, s11, s12, s13] (μ5 ++ [.frz (.lst [.exc 5 [.str "form", .int x], .exc 5 [.str "slip", .int y], .exc 5 [.str "span", .int x], .exc 5 [.str "form", .int y]])] ++ [q]) = some (.ok (.fr [.str "form", .str "slip", .str "span", .str "form"]), μ5 ++ [.frz (.lst [.exc 5 [.str "form", .int x], .exc 5 [.str "slip", .int y], .exc 5 [.str "span", .int x], .exc 5 [.str "form", .int y]])] ++ [q]) := fun s0 s1 s2 s3 s4 s5 s6 s8 s9 s10 s11 s12 s13 q =>
    attr_comp (ds := [.exc 5 [.str "form", .int x], .exc 5 [.str "slip", .int y], .exc 5 [.str "span", .int x], .exc 5 [.str "form", .int y]]) (by simp only [ev, List.getElem?_cons_zero, List.getElem?_cons_succ, List.set_cons_zero, List.set_cons_succ, decide_eq_true_eq, Bool.not_eq_true', decide_eq_false_iff_not, Nat.reduceAdd, Bool.not_true, Bool.not_false, Option.map_some, Option.map_none, iv2]) (by show 4 ≤ 100; decide) nw
  have m10 : ∀ (s0 s1 s2 s3 s4 s5 s6 s7 s8 s9 s11 s12 s13 : Option S) (p p' : C), mComp (iVal (mVar 10)) (gNm 12 false) tTrue (mAttrX (xflOf tXi) tFls "name" (mVar 12)) [12] [s0, s1, s2, s3, s4, s5, s6, s7, s8, s9, some (.cell (μ5 ++ [p]).length), s11, s12, s13] (μ5 ++ [p'] ++ [.lst [.exc 8 [c], .exc 8 [a]]]) = some (.ok (.fr [c, a]), μ5 ++ [p'] ++ [.frz (.lst [.exc 8 [c], .exc 8 [a]])]) := fun s0 s1 s2 s3 s4 s5 s6 s7 s8 s9 s11 s12 s13 p p' => by
    have hz : (μ5 ++ [p]).length = (μ5 ++ [p']).length := by rw [List.length_append, List.length_append]; rfl
    rw [hz]
    refine attr_comp (ds := [.exc 8 [c], .exc 8 [a]]) (by simp only [ev, List.getElem?_cons_zero, List.getElem?_cons_succ, List.set_cons_zero, List.set_cons_succ, decide_eq_true_eq, Bool.not_eq_true', decide_eq_false_iff_not, Nat.reduceAdd, Bool.not_true, Bool.not_false, Option.map_some, Option.map_none, finI_end]) (by show 2 ≤ 100; decide) fun d hd => ?_
    simp only [List.mem_cons, List.not_mem_nil, or_false] at hd
    rcases hd with rfl | rfl <;> exact ⟨_, _, rfl, fun ν => rfl⟩
  refine ⟨List.take μ.length (μ5 ++ [.frz (.lst [.exc 5 [.str "form", .int x], .exc 5 [.str "slip", .int y], .exc 5 [.str "span", .int x], .exc 5 [.str "form", .int y]])] ++ [.frz (.lst [.exc 8 [c], .exc 8 [a]])]), ?_⟩
  simp only [ev, List.getElem?_cons_zero, List.getElem?_cons_succ, List.set_cons_zero, List.set_cons_succ, decide_eq_true_eq, Bool.not_eq_true', decide_eq_false_iff_not, Nat.reduceAdd, Bool.not_true, Bool.not_false, Option.map_some, Option.map_none, e1, e2, e3, p6, e4, e5, mExcI_ap, x4, x4k, x5, x5b, x5k, x5r, x6, x6k, x7, x7k, x8, x8k, v1, v2, v3, v4, la3, la1, m6, m7r, m7w, m8, m9, m10, w1, w2, w4, w5, a42, a51, rp, eq_ss, decide_true]
  try rfl
theorem turn_call {ns : List Int} {j : Nat} {s2 s3 : Option S} {μ : Sto} (hj : j < 63) : ∃ y2 y3 μ', c_law_b1 [some (.val (.scr ns)), some (.val (.int (j : Int))), s2, s3] μ = some (.nx, [some (.val (.scr ns)), some (.val (.int (j : Int))), y2, y3], μ') := by
  obtain ⟨a, b, e0, b0, b1⟩ := hand_call (μ := μ) (ns := ns) (k := j)
  have H0 : HandAt (μ ++ [.lst [.int a, .int b, .int 0]]) μ.length 0 := ⟨a, b, 0, get_end, b0, b1, by decide, by decide⟩
  obtain ⟨x, μ1, e1, x0, x1, H1, u1⟩ := take_call (m := 9) H0 (by decide) (by unfold Bd; decide) (by omega)
  obtain ⟨p, μ2, e2, hp, H2, u2⟩ := thing_call H1 (by omega)
  obtain ⟨q, μ3, e3, hq, H3, u3⟩ := thing_call H2 (by omega)
  obtain ⟨μ4, e4⟩ := values_call H3 (by omega)
  have ek := kinds_call (μ := μ3) (E := [.exc 0 [], .exc 1 [], .exc 2 [], .exc 3 [], .exc 4 [.int x], .exc 5 [.str "form", .int 3], .exc 6 [p], .exc 7 [q], .exc 8 [.str "a"], .exc 9 [], .exc 10 []]) (fun i d hd => by
    have hi : i < 11 := (List.getElem?_eq_some_iff.mp hd).1
    have : i = 0 ∨ i = 1 ∨ i = 2 ∨ i = 3 ∨ i = 4 ∨ i = 5 ∨ i = 6 ∨ i = 7 ∨ i = 8 ∨ i = 9 ∨ i = 10 := by omega
    rcases this with rfl | rfl | rfl | rfl | rfl | rfl | rfl | rfl | rfl | rfl | rfl <;> (cases hd; exact ⟨_, rfl⟩)) rfl
  have f11 := fam_call (c := 11) (fs := []) (μ := μ4) (by decide)
  have f12 := fam_call (c := 12) (fs := []) (μ := μ4) (by decide)
  have n11 : dNe (.lst (famL 11)) (.lst [.bl true, .bl true, .bl false, .bl false, .bl false, .bl false]) = some (.val (.bl false)) := ne_bls (l := [true, true, false, false, false, false]) (by decide)
  have n12 : dNe (.lst (famL 12)) (.lst [.bl false, .bl false, .bl true, .bl true, .bl false, .bl false]) = some (.val (.bl false)) := ne_bls (l := [false, false, true, true, false, false]) (by decide)
  have l6 : ∀ (p q r z u v : D) (ν : Sto), finL [.val p, .val q, .val r, .val z, .val u, .val v] ν = some (.ok (.fr [p, q, r, z, u, v]), ν) := fun _ _ _ _ _ _ ν => rfl
  have l3 : ∀ (p q r : D) (ν : Sto), finL [.val p, .val q, .val r] ν = some (.ok (.fr [p, q, r]), ν) := fun _ _ _ ν => rfl
  have l2 : ∀ (p q : D) (ν : Sto), finL [.val p, .val q] ν = some (.ok (.fr [p, q]), ν) := fun _ _ ν => rfl
  have a63 : ∀ a b c d e f g h i : D, dAdd (.lst [a, b, c, d, e, f]) (.lst [g, h, i]) = some (.fr [a, b, c, d, e, f, g, h, i]) := fun _ _ _ _ _ _ _ _ _ => Sz.add_ll (by show 6 + 3 ≤ 1000; decide)
  have a92 : ∀ a b c d e f g h i j k : D, dAdd (.lst [a, b, c, d, e, f, g, h, i]) (.lst [j, k]) = some (.fr [a, b, c, d, e, f, g, h, i, j, k]) := fun _ _ _ _ _ _ _ _ _ _ _ => Sz.add_ll (by show 9 + 2 ≤ 1000; decide)
  unfold c_law_b1
  refine ⟨some (.cell μ.length), some (.val (.lst [.exc 0 [], .exc 1 [], .exc 2 [], .exc 3 [], .exc 4 [.int x], .exc 5 [.str "form", .int 3], .exc 6 [p], .exc 7 [q], .exc 8 [.str "a"], .exc 9 [], .exc 10 []])), μ4, ?_⟩
  simp only [ev, List.getElem?_cons_zero, List.getElem?_cons_succ, List.set_cons_zero, List.set_cons_succ, decide_eq_true_eq, Bool.not_eq_true', decide_eq_false_iff_not, Nat.reduceAdd, Bool.not_true, Bool.not_false, Option.map_some, Option.map_none, e0, mExc0_ap, mExcI_ap, e1, x4, x5, l6, e2, e3, x6, x7, x8, l3, l2, a63, a92, ek, e4, f11, f12, n11, n12]
  try rfl
end
theorem law_holds (ns : List Int) (hl : ns.length ≤ 63) : fi_law.sem [.val (.scr ns)] [] = some (.ok (.val (.bl true)), []) := by
  rw [sem_law]
  unfold c_law
  have hr : ∀ (r : List (Option S)) (ν : Sto), iRange1 (mOp2 dAdd (mK (.int 2)) (mCallB bMin [mK (.int 6), mCallB bLen [mVar 0]])) (some (.val (.scr ns)) :: r) ν = some (.ok (rangeD 0 (2 + min 6 ns.length)), ν) := fun r ν => iRange1_to (by
    simp only [ev, List.getElem?_cons_zero, List.getElem?_cons_succ, List.set_cons_zero, List.set_cons_succ, decide_eq_true_eq, Bool.not_eq_true', decide_eq_false_iff_not, Nat.reduceAdd, Bool.not_true, Bool.not_false, Option.map_some, Option.map_none]
    have : (2 + if (ns.length : Int) < (6 : Int) then (ns.length : Int) else (6 : Int)) = ((2 + min 6 ns.length : Nat) : Int) := by split <;> omega
    rw [this]) (by omega)
  obtain ⟨ρ', μ', e, x1, x2, x3, rfl⟩ := floop_ix (t := gNm 1 false) (b := c_law_b1) (fun j ρ ν => ∃ x1 x2 x3 : Option S, ρ = [some (.val (.scr ns)), x1, x2, x3]) (rangeD 0 (2 + min 6 ns.length)) 0 [some (.val (.scr ns)), none, none, none] [] (fun i x ρ ν hx hI => by
    have hi : i < 2 + min 6 ns.length := by
      have := (List.getElem?_eq_some_iff.mp hx).1
      rwa [rangeD_len] at this
    obtain ⟨i', _, rfl⟩ := rangeD_mem' (List.mem_of_getElem? hx)
    obtain ⟨x1, x2, x3, rfl⟩ := hI
    have h63 : i' < 63 := by
      obtain ⟨h, e⟩ := rangeD_get hx
      have : (0 : Int) + (i' : Int) = 0 + (i : Int) := by injection e
      omega
    rw [Int.zero_add]
    obtain ⟨y2, y3, μ', e⟩ := turn_call (ns := ns) (j := i') (s2 := x2) (s3 := x3) (μ := ν) h63
    exact ⟨_, _, rfl, _, _, e, _, _, _, rfl⟩) ⟨_, _, _, rfl⟩
  simp only [ev, List.getElem?_cons_zero, List.getElem?_cons_succ, List.set_cons_zero, List.set_cons_succ, decide_eq_true_eq, Bool.not_eq_true', decide_eq_false_iff_not, Nat.reduceAdd, Bool.not_true, Bool.not_false, Option.map_some, Option.map_none, hr, e]
  rfl
end Law
theorem PySem.Challenge.cw_sizeladders_k74_whole_errors_by_hand_holds : PySem.Challenge.rw_sizeladders_k74_whole_errors_by_hand.Holds := by
  exact Law.whole Law.law_holds
