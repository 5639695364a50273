import PyProof.Rows.All
import Wide.All
import OpenK.AllK
import Wide.FinOn
import KE.KStateDown
import Lean
import HandS.ForMost
import HandS.ForExc
import HandS.Wide
import HandS.Defaults
import HandS.IsInst
import HandS.HeadHook2
import HandS.HeadHook3
import KE.KExcInit
import HandS.Head2
import HandS.HeadHook4
import HandS.HeadEnd
import HandS.Lambda
import HandS.TupAny
import HandS.Deep
import KE.DataCmp
import HandS.CallRecv
import HandS.Style
import HandS.TryOnly
import HandS.More
import HandS.SlotsOwn
import HandS.Text
import HandS.Ends
import HandS.RaiseMore
import HandS.Iter
import HandS.RevRange
import KE.GoesMore
import KE.GoesEnum
import HandS.Zip
import PyProof.ExcBaseAll.ValueError
import PyProof.ExcBaseAll.LookupError
import PyProof.ExcBaseAll.ZeroDivisionError
import PyProof.ExcBaseAll.IndexError
import HandS.FStrTup
import OpenK.KOps
import KE.DataMinMax
import HandS.SortKw
import HandS.FStr
import PyProof.ReprReads
import HandS.Conv
import KE.KFmtOwn
import HandS.WideBits
import HandS.OwnEq
import HandS.TryMany
import HandS.ExcIs
import HandS.ExcInit
import HandS.ExcField
import HandS.SetFor
import HandS.Strs
import HandS.SortInts
import PyProof.ReprUnder
import PyProof.Rows.IntBool
import HandS.Flow
import KE.DataFind
import HandS.Codes
import HandS.WordsDict
import KE.SortKeyHeap
import HandS.DictEq
import HandS.ExcOwn
import PyProof.ListStr
import PyProof.StrBlock2
import HandS.ReplaceLit
import HandS.ReplaceDef
import PySem.Challenge.RW_sizeladders_k05_measures_read
set_option Elab.async false
set_option linter.all false
set_option maxRecDepth 100000
set_option maxHeartbeats 4000000
namespace Sz
open PySem PySem.Spec PyProof.Rows L2
/-- a value as a tree -/
inductive D where
  | non | bl (b : Bool) | int (i : Int) | str (s : Str) | ty (n : String)
  | tup (ds : List D) | lst (ds : List D) | obj (c : Nat) (fs : List D)
  | fn (f : Nat) | cls (c : Nat)
  /-- the law's script -/
  | scr (ns : List Int)
  /-- a dict that never changes -/
  | dic (ks : List Key) (ds : List D)
  /-- a caught exception of the program's own -/
  | exc (c : Nat) (fs : List D)
def tyNames : List String := ["NoneType", "bool", "int", "str", "list", "tuple", "dict"]
def eqB (a b : Option Bool) : Bool := match a, b with
  | some x, some y => x == y
  | none, none => true
  | _, _ => false
def kitB (cls : List Str) (n m : Nat) (sub : Nat → Nat → Bool) (K : PySem.W.Frag) : Bool :=
  (He.eqO (PySem.W.specialIn K (.builtin "object.__class__") "__get__") (some (some (.builtin "getset_descriptor.__get__"))) && eqB (PySem.W.takesIn K (.builtin "object.__class__")) (some true)) &&
  (((List.range n).all fun c => (He.Fa.cls (cls.getD c "")).ok K && (He.eqO (PySem.W.findIn K (.ref (He.ga K (cls.getD c ""))) "__class__") (some (some (.builtin "object.__class__"))) && eqB (PySem.W.mroIn K (He.ga K (cls.getD c "")) (.type "object")) (some true))) &&
  (((List.range m).all fun c => tyNames.all fun T => eqB (PySem.W.kitOne K (.type T) (.ref (He.ga K (cls.getD c "")))) (some false)) &&
  (((List.range n).all fun c => (List.range m).all fun c' => eqB (PySem.W.kitOne K (.ref (He.ga K (cls.getD c ""))) (.ref (He.ga K (cls.getD c' "")))) (some (sub c c'))) &&
  ((List.range n).all fun c => ["bool", "int", "str", "list", "tuple", "dict"].all fun T => eqB (PySem.W.kitOne K (.ref (He.ga K (cls.getD c ""))) (.type T)) (some false)))))
def obsZ (chk : PySem.W.Frag → Bool) (fa : List He.Fa) (fn : List He.DefD) (K : PySem.W.Frag) : He.AlD := ((chk K && fa.all fun f => f.ok K) && fn.all fun d => d.ok K, fn.map fun d => He.fnW K d.at_)
def SaysZ (chk : PySem.W.Frag → Bool) (fa : List He.Fa) (fn : List He.DefD) (K : PySem.W.Frag) : Prop := obsZ chk fa fn K = He.valD fn
def faOf (frees globs : List Str) (rest : List He.Fa) : List He.Fa := frees.map .free ++ (globs.map .glo ++ (globs.map .keep ++ rest))
/-- a default as the head has it -/
def dvOf : D → He.Dv
  | .bl b => .bl b
  | .int i => .int i
  | .str s => .str s
  | .ty T => .ty T
  | _ => .non
abbrev Tab := List (Str × D)
/-- a table's value as the head has it -/
def valB (fns : List Str) (K : PySem.W.Frag) : D → Option (Option Value) → Bool
  | .fn n, some (some (.ref a)) => a == He.ga K (fns.getD n "")
  | .int i, some (some (.int j _)) => i == j
  | .str s, some (some (.str z _)) => s == z
  | _, _ => false
def sOf : Value → Option Str
  | .str z _ => some z
  | _ => none
/-- a tuple of texts of the top -/
def tpB (K : PySem.W.Frag) (p : Str × List Str) : Bool := match K.lookup (He.ga K p.1) with
  | some o => decide (o.cls = .type "tuple") && (match o.data with
    | .seq its _ => decide (its.size ≤ sizeLine) && decide (its.toList.map sOf = p.2.map some)
    | _ => false)
  | none => false
def tpsB (tps : List (Str × List Str)) (K : PySem.W.Frag) : Bool := tps.all fun p => He.Fa.ok K (.glo p.1) && tpB K p
/-- the tables by their defs' numbers -/
def tabB (fns : List Str) (tabs : List (Nat × Tab)) (K : PySem.W.Frag) : Bool := tabs.all fun q => He.Fa.ok K (.glo (fns.getD q.1 "")) && q.2.all fun e => valB fns K e.2 (PySem.W.nsIn K (He.ga K (fns.getD q.1 "")) e.1)
def tabsOf (tabs : List (Nat × Tab)) (n : Nat) : Option Tab := tabs.lookup n
def htabs (fns : List Str) (tabs : List (Nat × Tab)) : List He.Tab := tabs.map fun q => (fun K => He.ga K (fns.getD q.1 ""), q.2.map (·.1))
abbrev AlY : Type := He.AlD × List (Option (List (Option (Str × Int))))
def obsY (chk : PySem.W.Frag → Bool) (fa : List He.Fa) (fn : List He.DefD) (ts : List He.Tab) (K : PySem.W.Frag) : AlY := (obsZ chk fa fn K, ts.map fun t => He.dicW K (t.1 K))
def valY (fn : List He.DefD) (ts : List He.Tab) (w : World) : AlY := (He.valD fn, ts.map fun t => some (He.keysIn w.params t.2))
def SaysY (chk : PySem.W.Frag → Bool) (fa : List He.Fa) (fn : List He.DefD) (ts : List He.Tab) (w : World) (K : PySem.W.Frag) : Prop := obsY chk fa fn ts K = valY fn ts w
/-- the built-in bases, told by number -/
def bmOf : Nat → List Value
  | 0 => [.type "ValueError", .type "Exception", .type "BaseException", .type "object"]
  | 1 => [.type "ZeroDivisionError", .type "ArithmeticError", .type "Exception", .type "BaseException", .type "object"]
  | 2 => [.type "LookupError", .type "Exception", .type "BaseException", .type "object"]
  | _ => [.type "IndexError", .type "LookupError", .type "Exception", .type "BaseException", .type "object"]
def newOf : Nat → String
  | 0 => "ValueError.__new__"
  | 1 => "ZeroDivisionError.__new__"
  | 2 => "LookupError.__new__"
  | _ => "IndexError.__new__"
open PySem.W in
/-- one class: its name, its base -/
def xcB (K : Frag) (p : Str × Nat) : Bool :=
  (excIn K (He.ga K p.1) (bmOf p.2) (newOf p.2) && keepIn K (.ref (He.ga K p.1))) && ((subIn K (.ref (He.ga K p.1)) (.type "BaseException") == some true && typeIn K (.ref (He.ga K p.1)) == some (.type "type")) &&
  ((findIn K (.ref (He.ga K p.1)) "__getattribute__" == some (some (.builtin "BaseException.__getattribute__")) && findIn K (.ref (He.ga K p.1)) "__getattr__" == some none) &&
  ((hasDictIn K (He.ga K p.1) && findIn K (.ref (He.ga K p.1)) "__class__" == some (some (.builtin "object.__class__"))) && mroIn K (He.ga K p.1) (.type "object") == some true)))
structure XTab where
  exs : List (Nat × (Str × Nat))
  exm : List ((Nat × Nat) × Bool)
  sub : List ((Nat × Nat) × Bool)
  ty : List ((Nat × String) × Bool)
def XTab.exmF (t : XTab) (c c' : Nat) : Option Bool := t.exm.lookup (c, c')
open PySem.W in
def xtB (cls : List Str) (t : XTab) (K : Frag) : Bool :=
  ((specialIn K (.builtin "object.__class__") "__get__" == some (some (.builtin "getset_descriptor.__get__")) && takesIn K (.builtin "object.__class__") == some true) &&
  (t.exs.all fun p => xcB K p.2 && cls.getD p.1 "" == p.2.1)) &&
  ((t.exm.all fun p => exmOne K (.ref (He.ga K (cls.getD p.1.1 ""))) (.ref (He.ga K (cls.getD p.1.2 ""))) == some p.2) &&
  ((t.sub.all fun p => kitOne K (.ref (He.ga K (cls.getD p.1.1 ""))) (.ref (He.ga K (cls.getD p.1.2 ""))) == some p.2) &&
  (t.ty.all fun p => kitOne K (.ref (He.ga K (cls.getD p.1.1 ""))) (.type p.1.2) == some p.2)))
def iniOf : Nat → String
  | 0 => "ValueError.__init__"
  | 1 => "ZeroDivisionError.__init__"
  | 2 => "LookupError.__init__"
  | _ => "IndexError.__init__"
/-- such a class: its name, the number of its built-in base, the own base that its __init__ calls, its fields in the order of the stores -/
structure XI where
  nm : Str
  b : Nat
  ob : Str
  fl : List Str
open PySem.W in
def xiB (K : Frag) (p : XI) : Bool :=
  ((excInitIn K (He.ga K p.nm) (bmOf p.b) (newOf p.b) && excOver K (He.ga K p.nm) (bmOf p.b)) && (hasDictIn K (He.ga K p.nm) && keepIn K (.ref (He.ga K p.nm)))) &&
  (((findIn K (.ref (He.ga K p.nm)) "__setattr__" == some (some (.builtin "object.__setattr__")) && subIn K (.ref (He.ga K p.nm)) (.type "BaseException") == some true) && (typeIn K (.ref (He.ga K p.nm)) == some (.type "type") && mroIn K (He.ga K p.nm) (.type "object") == some true)) &&
  (((findIn K (.ref (He.ga K p.nm)) "__getattribute__" == some (some (.builtin "BaseException.__getattribute__")) && findIn K (.ref (He.ga K p.nm)) "__getattr__" == some none) && findIn K (.ref (He.ga K p.nm)) "__class__" == some (some (.builtin "object.__class__"))) &&
  (((specialIn K (.ref (He.ga K p.ob)) "__getattribute__" == some (some (.builtin "type.__getattribute__")) && readsIn K (He.ga K p.ob) (.type "type")) && (match findCls K (.ref (He.ga K p.ob)) (.type "type") "__init__" with | some (.val (.builtin x)) => x == iniOf p.b | _ => false)) &&
  ((p.fl.all fun f => findIn K (.ref (He.ga K p.nm)) f == some none) &&
  (findIn K (.ref (He.ga K p.nm)) "__init__" == some (some (.ref (He.ma K (He.ga K p.nm) "__init__"))) && typeIn K (.ref (He.ma K (He.ga K p.nm) "__init__")) == some (.type "function"))))))
abbrev XIs := List (Nat × XI)
def xiA (cls : List Str) (xi : XIs) (K : PySem.W.Frag) : Bool := xi.all fun p => xiB K p.2 && cls.getD p.1 "" == p.2.nm
def obsSG (n : Nat) (chk : PySem.W.Frag → Bool) (fa : List He.Fa) (fn : List He.DefD) (ts : List He.Tab) (g : Addr → Option Obj) : AlY := obsY chk fa fn ts (He.frG g (He.asD g n ++ [cStatics]))
def hookS (n : Nat) (chk : PySem.W.Frag → Bool) (fa : List He.Fa) (fn : List He.DefD) (ts : List He.Tab) : PySem.W.Hook where
  α := AlY
  obs := fun s => obsSG n chk fa fn ts s.heap.get?
  val := fun w => valY fn ts w
  says := fun w h => ∃ K : PySem.W.Frag, K.In h ∧ SaysY chk fa fn ts w K
  of := fun _ _ e => ⟨_, He.frG_in, e⟩
  keeps := fun _ _ _ ⟨K, hK, c⟩ k => ⟨K, PySem.W.Frag.In.keeps hK k, c⟩
theorem obsSG_eq {n : Nat} {chk : PySem.W.Frag → Bool} {fa : List He.Fa} {fn : List He.DefD} {ts : List He.Tab} {g : Addr → Option Obj} {s : Shared} (h : ∀ a, g a = s.heap.get? a) : obsSG n chk fa fn ts g = (hookS n chk fa fn ts).obs s := by
  have e : g = s.heap.get? := funext h
  rw [e] <;> rfl
def tyNs : List String := ["NoneType", "bool", "int", "str", "tuple", "list", "dict"]
end Sz
set_option Elab.async false
set_option linter.all false
set_option maxRecDepth 100000
set_option maxHeartbeats 4000000
namespace Sz
open PySem PySem.Spec PyProof.Rows L2
/-- the built-ins' module, told by K; P is another object -/
def bmB (K : PySem.W.Frag) (P : Addr) : Bool := He.Fa.ok K (.glo "__builtins__") && (decide (He.ga K "__builtins__" ≠ builtinsNs) && (decide (He.ga K "__builtins__" ≠ mainGlobals) && (decide (He.ga K "__builtins__" ≠ P) && (decide (mainGlobals ≠ P) && (match K.lookup (He.ga K "__builtins__") with
  | some ⟨.type c, some d, .plain, _⟩ => decide (c = "module") && decide (d = builtinsNs)
  | _ => false)))))
end Sz
set_option Elab.async false
set_option linter.all false
set_option maxRecDepth 100000
set_option maxHeartbeats 4000000
namespace Law
open PySem PySem.Spec L2 Sz
abbrev tCls : List Str := ["Measure", "NoMeasure", "NoBottom", "LadderError", "NoStretch", "NoLadder", "NoLine", "Slip", "NoText"]
def tX : XTab := ⟨[(1, ("NoMeasure", 0)), (2, ("NoBottom", 1))], [((1, 3), true), ((1, 1), true), ((2, 3), false), ((2, 1), false)], [((1, 4), false), ((1, 5), false), ((1, 6), false), ((1, 7), false), ((1, 8), false), ((1, 1), true), ((2, 4), false), ((2, 5), false), ((2, 6), false), ((2, 7), false), ((2, 8), false), ((2, 1), false)], [((1, ("ValueError" : String)), true), ((2, ("ValueError" : String)), false)]⟩
abbrev tFls : List (List Str) := [["top", "bottom"]]
def tXi : XIs := []
abbrev tFlsX : List (List Str) := tFls ++ ([[], [], [], [], [], [], [], []] : List (List Str))
abbrev nCls : Nat := 1
abbrev tFns : List Str := []
abbrev lTabs : List (Nat × Tab) := []
abbrev tTabs : Nat → Option Tab := tabsOf lTabs
def tCis : List (Str × Int) := [("MOST_FIGURES", 12)]
def tTps : List (Str × List Str) := []
def tCss : List (Str × Str) := [("FIGURES", "0123456789")]
abbrev nKit : Nat := 1
abbrev subK : Nat → Nat → Bool := fun a b => a == b
end Law
set_option Elab.async false
set_option linter.all false
set_option maxRecDepth 100000
set_option maxHeartbeats 4000000
namespace Law
open PySem PySem.Spec L2 Sz
abbrev top (i : Nat) : Stmt := PySem.Challenge.pw_sizeladders_k05_measures_read.main.body.getD i (.Pass ⟨0, 0, 0, 0⟩)
abbrev st_l_figures : Stmt := top 28
def d_l_figures : He.DefD := ⟨("_law_figures", none), "_law_figures", "_law_figures", defArgs st_l_figures, defBody st_l_figures, defScope st_l_figures, ([] : List D).map dvOf, []⟩
abbrev st_l_common : Stmt := top 24
def d_l_common : He.DefD := ⟨("_law_common", none), "_law_common", "_law_common", defArgs st_l_common, defBody st_l_common, defScope st_l_common, ([] : List D).map dvOf, []⟩
abbrev st_l_read : Stmt := top 29
def d_l_read : He.DefD := ⟨("_law_read", none), "_law_read", "_law_read", defArgs st_l_read, defBody st_l_read, defScope st_l_read, ([] : List D).map dvOf, []⟩
abbrev st_figures_in : Stmt := top 16
def d_figures_in : He.DefD := ⟨("figures_in", none), "figures_in", "figures_in", defArgs st_figures_in, defBody st_figures_in, defScope st_figures_in, ([] : List D).map dvOf, []⟩
abbrev st_part_in : Stmt := top 17
def d_part_in : He.DefD := ⟨("part_in", none), "part_in", "part_in", defArgs st_part_in, defBody st_part_in, defScope st_part_in, ([] : List D).map dvOf, []⟩
abbrev st_written_in : Stmt := top 18
def d_written_in : He.DefD := ⟨("written_in", none), "written_in", "written_in", defArgs st_written_in, defBody st_written_in, defScope st_written_in, ([] : List D).map dvOf, []⟩
abbrev st_is_whole : Stmt := top 13
def d_is_whole : He.DefD := ⟨("is_whole", none), "is_whole", "is_whole", defArgs st_is_whole, defBody st_is_whole, defScope st_is_whole, ([] : List D).map dvOf, []⟩
abbrev st_common_part : Stmt := top 14
def d_common_part : He.DefD := ⟨("common_part", none), "common_part", "common_part", defArgs st_common_part, defBody st_common_part, defScope st_common_part, ([] : List D).map dvOf, []⟩
abbrev st_Measure___init__ : Stmt := inClass (top 15) 0
def d_Measure___init__ : He.DefD := ⟨("Measure", some "__init__"), "__init__", "Measure.__init__", defArgs st_Measure___init__, defBody st_Measure___init__, defScope st_Measure___init__, ([.int 1] : List D).map dvOf, []⟩
abbrev st_Measure___str__ : Stmt := inClass (top 15) 2
def d_Measure___str__ : He.DefD := ⟨("Measure", some "__str__"), "__str__", "Measure.__str__", defArgs st_Measure___str__, defBody st_Measure___str__, defScope st_Measure___str__, ([] : List D).map dvOf, []⟩
abbrev st_measure_in : Stmt := top 19
def d_measure_in : He.DefD := ⟨("measure_in", none), "measure_in", "measure_in", defArgs st_measure_in, defBody st_measure_in, defScope st_measure_in, ([] : List D).map dvOf, []⟩
abbrev st_read_measure : Stmt := top 20
def d_read_measure : He.DefD := ⟨("read_measure", none), "read_measure", "read_measure", defArgs st_read_measure, defBody st_read_measure, defScope st_read_measure, ([] : List D).map dvOf, []⟩
abbrev st_l_is : Stmt := top 25
def d_l_is : He.DefD := ⟨("_law_is", none), "_law_is", "_law_is", defArgs st_l_is, defBody st_l_is, defScope st_l_is, ([] : List D).map dvOf, []⟩
abbrev st_l_right : Stmt := top 33
def d_l_right : He.DefD := ⟨("_law_right", none), "_law_right", "_law_right", defArgs st_l_right, defBody st_l_right, defScope st_l_right, ([] : List D).map dvOf, []⟩
abbrev st_l_hand_of : Stmt := top 22
def d_l_hand_of : He.DefD := ⟨("_law_hand_of", none), "_law_hand_of", "_law_hand_of", defArgs st_l_hand_of, defBody st_l_hand_of, defScope st_l_hand_of, ([] : List D).map dvOf, []⟩
abbrev st_l_nest : Stmt := top 26
def d_l_nest : He.DefD := ⟨("_law_nest", none), "_law_nest", "_law_nest", defArgs st_l_nest, defBody st_l_nest, defScope st_l_nest, ([] : List D).map dvOf, []⟩
abbrev st_l_take : Stmt := top 23
def d_l_take : He.DefD := ⟨("_law_take", none), "_law_take", "_law_take", defArgs st_l_take, defBody st_l_take, defScope st_l_take, ([] : List D).map dvOf, []⟩
abbrev st_l_any_thing : Stmt := top 27
def d_l_any_thing : He.DefD := ⟨("_law_any_thing", none), "_law_any_thing", "_law_any_thing", defArgs st_l_any_thing, defBody st_l_any_thing, defScope st_l_any_thing, ([] : List D).map dvOf, []⟩
abbrev st_l_number_of : Stmt := top 30
def d_l_number_of : He.DefD := ⟨("_law_number_of", none), "_law_number_of", "_law_number_of", defArgs st_l_number_of, defBody st_l_number_of, defScope st_l_number_of, ([] : List D).map dvOf, []⟩
abbrev st_l_text_of : Stmt := top 31
def d_l_text_of : He.DefD := ⟨("_law_text_of", none), "_law_text_of", "_law_text_of", defArgs st_l_text_of, defBody st_l_text_of, defScope st_l_text_of, ([] : List D).map dvOf, []⟩
abbrev st_l_refused : Stmt := top 34
def d_l_refused : He.DefD := ⟨("_law_refused", none), "_law_refused", "_law_refused", defArgs st_l_refused, defBody st_l_refused, defScope st_l_refused, ([] : List D).map dvOf, []⟩
abbrev st_l_bent : Stmt := top 32
def d_l_bent : He.DefD := ⟨("_law_bent", none), "_law_bent", "_law_bent", defArgs st_l_bent, defBody st_l_bent, defScope st_l_bent, ([] : List D).map dvOf, []⟩
abbrev st_law : Stmt := top 35
def d_law : He.DefD := ⟨("law", none), "law", "law", defArgs st_law, defBody st_law, defScope st_law, ([] : List D).map dvOf, []⟩
def tDefs : List He.DefD := ([d_l_figures, d_l_common, d_l_read, d_figures_in, d_part_in, d_written_in, d_is_whole, d_common_part, d_Measure___init__, d_Measure___str__, d_measure_in, d_read_measure, d_l_is, d_l_right, d_l_hand_of, d_l_nest, d_l_take, d_l_any_thing, d_l_number_of, d_l_text_of] : List He.DefD) ++ ([d_l_refused, d_l_bent, d_law] : List He.DefD)
def tFrees : List Str := ["len", "int", "str", "isinstance", "all", "bool", "abs", "divmod", "ValueError", "range", "min"]
def tGlobs : List Str := (["_law_figures", "_law_common", "_law_read", "NoMeasure", "figures_in", "part_in", "written_in", "is_whole", "NoBottom", "common_part", "Measure", "measure_in", "read_measure", "LadderError", "NoStretch", "NoLadder", "NoLine", "Slip", "NoText", "_law_is"] : List Str) ++ (["_law_right", "_law_hand_of", "_law_nest", "_law_take", "_law_any_thing", "_law_number_of", "_law_text_of", "_law_refused", "_law_bent", "law"] : List Str)
def tRest : List He.Fa := (([.cls "Measure", .mkr "Measure", .noat "Measure" "top", .noat "Measure" "bottom", .meth "Measure" "__str__"] : List He.Fa)) ++ (tCis.map (fun p => He.Fa.int p.1 p.2) ++ tCss.map fun p => He.Fa.str p.1 p.2)
def tNfs : List (Str × Str) := []
def tAns : List Str := []
def tNns : List Str := []
def tNes : List Str := []
def tFms : List Str := []
def tChk (K : PySem.W.Frag) : Bool := (kitB tCls nKit nKit subK K && tpsB tTps K) && (((tNfs.all fun p => PySem.W.notFirst K (He.ga K p.1) (.ref (He.ga K p.2))) && (((tNes.all fun c => PySem.W.findIn K (.ref (He.ga K c)) "__ne__" == some (some (.builtin "object.__ne__")) && PySem.W.mroIn K (He.ga K c) (.type "object") == some true) && (tFms.all fun c => PySem.W.findIn K (.ref (He.ga K c)) "__format__" == some (some (.builtin "object.__format__")) && PySem.W.mroIn K (He.ga K c) (.type "object") == some true)) && ((tNns.all fun c => PySem.W.notFirst K (He.ga K c) (.type "NoneType") && PySem.W.subIn K (.ref (He.ga K c)) (.type "NoneType") == some false) && ((tAns.all fun c => tyNs.all fun T => PySem.W.notFirst K (He.ga K c) (.type T) && PySem.W.subIn K (.ref (He.ga K c)) (.type T) == some false) && (xtB tCls tX K && xiA tCls tXi K))))) && tabB tFns lTabs K)
end Law
set_option Elab.async false
set_option linter.all false
set_option maxRecDepth 100000
set_option maxHeartbeats 0
namespace Law
open PySem PySem.Spec PyProof.Rows L2 Sz
abbrev RR : PySem.W.OpenRow := PySem.W.OpenLaw.row PySem.Challenge.rw_sizeladders_k05_measures_read
abbrev hk : PySem.W.Hook := hookS 4 tChk (faOf tFrees tGlobs tRest) tDefs (htabs tFns lTabs)
def ob (s : PySem.W.SharedT) : AlY := obsSG 4 tChk (faOf tFrees tGlobs tRest) tDefs (htabs tFns lTabs) (HandSHeadRun.getT s)
theorem ob_eq (s : PySem.W.SharedT) : ob s = hk.obs s.abs := obsSG_eq (HandSHeadRun.getT_eq s)
def tLoose : List Str := (["_wall", "__name__", "LadderError", "NoMeasure", "NoStretch", "NoLadder", "NoLine", "Slip", "NoText", "NoBottom", "FIGURES", "MOST_FIGURES", "is_whole", "common_part", "Measure", "figures_in", "part_in", "written_in", "measure_in", "read_measure"] : List Str) ++ (["_law_hand_of", "_law_take", "_law_common", "_law_is", "_law_nest", "_law_any_thing", "_law_figures", "_law_read", "_law_number_of", "_law_text_of", "_law_bent", "_law_right", "_law_refused"] : List Str)
theorem run (w : World) : HandSHeadRun.RunEq RR (PySem.W.view RR.prog [35]) hk ob 4000 tLoose w := by
  intro os
  kernel_rfl
end Law
set_option Elab.async false
set_option linter.all false
set_option maxRecDepth 100000
set_option maxHeartbeats 4000000
namespace Sz
open PySem PySem.Spec L2
/-- what a slot holds -/
inductive S where
  | val (d : D) | cell (k : Nat) | fr (ds : List D)
  /-- a list that nothing holds yet, its first item a list that changes: a cell, or a loose one -/
  | pot (j : Option Nat) (is ds : List D)
  /-- a thing of which nothing is known -/
  | any
/-- what a cell of the store holds -/
inductive C where
  | lst (ds : List D) | frz (d : D) | ins (c : Nat) (fs : List (Str × D))
  /-- a list whose first item is the list in cell j -/
  | pot (j : Nat) (ds : List D)
  /-- a dict that changes: its keys, its values -/
  | dct (kvs : List (Key × D))
  /-- an object whose fields are cells ahead of it -/
  | bk (c : Nat) (fs : List (Str × Nat))
/-- an exception of the program's own -/
inductive Ex where
  | own (c : Nat) (fs : List D)
abbrev En := List (Option S)
abbrev Sto := List C
/-- an expression's run -/
abbrev R := Except Ex S × Sto
abbrev ME := En → Sto → Option R
/-- a statement's -/
inductive Fl where
  | nx | rt (s : S) | bk | ct | ex (x : Ex)
abbrev MS := En → Sto → Option (Fl × En × Sto)
/-- where the text's own things stand -/
structure G where
  K : PySem.W.Frag
  cad : Nat → Addr
  fl : Nat → List Str
  fad : Nat → Addr
  /-- the tables of code objects that lambdas are put into, with the names of these -/
  tbs : List (Addr × Str) := []
mutual
def Rep (g : G) (F : Hp) : D → V → Prop
  | .non, v => v = .non
  | .bl b, v => v = .bl b
  | .int i, v => v = .int i
  | .str s, v => v = .str s
  | .ty n, v => v = .ty n
  | .tup ds, v => ∃ a vs, v = .ref a ∧ SqT g.K F a vs ∧ Reps g F ds vs
  | .lst ds, v => ∃ a vs, v = .ref a ∧ F a = some (.lst vs) ∧ Reps g F ds vs
  | .obj c fs, v => ∃ a dx vs, v = .ref a ∧ F a = some (.ins (g.cad c) dx ((g.fl c).zip vs)) ∧ vs.length = (g.fl c).length ∧ Reps g F fs vs
  | .fn f, v => v = .ref (g.fad f)
  | .cls c, v => v = .ref (g.cad c)
  | .scr ns, v => ∃ a, v = .ref a ∧ SqL g.K F a (ns.map V.int)
  | .dic ks ds, v => ∃ a o vs, v = .ref a ∧ F a = some (.frz o (.dK (ks.zip vs))) ∧ vs.length = ks.length ∧ Reps g F ds vs
  | .exc c fs, v => ∃ (a : Addr) (oe : Obj) (dx : Addr) (vs : List V), v = .ref a ∧ F a = some (.ext fun h => h.get? a = some oe) ∧ oe.cls = .ref (g.cad c) ∧ (∃ ws, oe.data = .fields ws) ∧ (oe.dict = some dx → F dx = some (.xd ((g.fl c).zip vs)) ∧ vs.length = (g.fl c).length) ∧ (oe.dict ≠ some dx → vs = []) ∧ (fs = [] → oe.dict = none) ∧ Reps g F fs vs
def Reps (g : G) (F : Hp) : List D → List V → Prop
  | [], vs => vs = []
  | d :: ds, vs => ∃ v r, vs = v :: r ∧ Rep g F d v ∧ Reps g F ds r
end
theorem seqT_mono {K : PySem.W.Frag} {H H' : Hp} {a : Addr} {xs : List V} (e : Same H H') (h : SqT K H a xs) : SqT K H' a xs := by
  rcases h with (h | ⟨o, h⟩) | h
  · exact .inl (.inl (e _ _ h))
  · exact .inl (.inr ⟨o, e _ _ h⟩)
  · exact .inr h
section
variable {g : G} {F F' : Hp}
mutual
theorem Rep.mono (e : Same F F') : ∀ {d : D} {v : V}, Rep g F d v → Rep g F' d v
  | .non, _, h => h
  | .bl _, _, h => h
  | .int _, _, h => h
  | .str _, _, h => h
  | .ty _, _, h => h
  | .tup ds, v, h => by
    unfold Rep at h ⊢
    obtain ⟨a, vs, e1, e2, e3⟩ := h
    exact ⟨a, vs, e1, seqT_mono e e2, Reps.mono e e3⟩
  | .lst ds, v, h => by
    unfold Rep at h ⊢
    obtain ⟨a, vs, e1, e2, e3⟩ := h
    exact ⟨a, vs, e1, e _ _ e2, Reps.mono e e3⟩
  | .obj c fs, v, h => by
    unfold Rep at h ⊢
    obtain ⟨a, dx, vs, e1, e2, e3, e4⟩ := h
    exact ⟨a, dx, vs, e1, e _ _ e2, e3, Reps.mono e e4⟩
  | .fn _, _, h => h
  | .cls _, _, h => h
  | .scr ns, v, h => by
    unfold Rep at h ⊢
    obtain ⟨a, e1, e2⟩ := h
    exact ⟨a, e1, e.seq e2⟩
  | .dic ks ds, v, h => by
    unfold Rep at h ⊢
    obtain ⟨a, o, vs, e1, e2, e3, e4⟩ := h
    exact ⟨a, o, vs, e1, e _ _ e2, e3, Reps.mono e e4⟩
  | .exc c fs, v, h => by
    unfold Rep at h ⊢
    obtain ⟨a, oe, dx, vs, e1, e2, e3, e4, e5, e6, e8, e7⟩ := h
    exact ⟨a, oe, dx, vs, e1, e _ _ e2, e3, e4, fun z => ⟨e _ _ (e5 z).1, (e5 z).2⟩, e6, e8, Reps.mono e e7⟩
theorem Reps.mono (e : Same F F') : ∀ {ds : List D} {vs : List V}, Reps g F ds vs → Reps g F' ds vs
  | [], _, h => h
  | d :: ds, vs, h => by
    unfold Reps at h ⊢
    obtain ⟨v, r, e1, e2, e3⟩ := h
    exact ⟨v, r, e1, Rep.mono e e2, Reps.mono e e3⟩
end
theorem Reps.nil : Reps g F [] [] := by unfold Reps; rfl
theorem Reps.nil_iff {vs : List V} : Reps g F [] vs ↔ vs = [] := by unfold Reps; exact Iff.rfl
theorem Reps.cons_iff {d : D} {ds : List D} {vs : List V} : Reps g F (d :: ds) vs ↔ ∃ v r, vs = v :: r ∧ Rep g F d v ∧ Reps g F ds r := by
  conv => lhs; unfold Reps
theorem Reps.cons {d : D} {ds : List D} {v : V} {vs : List V} (h : Rep g F d v) (t : Reps g F ds vs) : Reps g F (d :: ds) (v :: vs) := Reps.cons_iff.mpr ⟨v, vs, rfl, h, t⟩
theorem Reps.length : ∀ {ds : List D} {vs : List V}, Reps g F ds vs → vs.length = ds.length
  | [], vs, h => by rw [Reps.nil_iff.mp h]; rfl
  | d :: ds, vs, h => by
    obtain ⟨v, r, e, _, t⟩ := Reps.cons_iff.mp h
    rw [e, List.length_cons, List.length_cons, Reps.length t]
theorem Reps.get : ∀ {ds : List D} {vs : List V} {i : Nat} {d : D}, Reps g F ds vs → ds[i]? = some d → ∃ v, vs[i]? = some v ∧ Rep g F d v
  | [], _, _, _, _, e => by simp at e
  | d :: ds, vs, 0, d', h, e => by
    obtain ⟨v, r, e1, e2, t⟩ := Reps.cons_iff.mp h
    simp only [List.getElem?_cons_zero, Option.some.injEq] at e
    subst e
    exact ⟨v, by rw [e1]; rfl, e2⟩
  | d :: ds, vs, i + 1, d', h, e => by
    obtain ⟨v, r, e1, e2, t⟩ := Reps.cons_iff.mp h
    simp only [List.getElem?_cons_succ] at e
    obtain ⟨u, h1, h2⟩ := Reps.get t e
    exact ⟨u, by rw [e1, List.getElem?_cons_succ]; exact h1, h2⟩
theorem Reps.append : ∀ {ds es : List D} {vs us : List V}, Reps g F ds vs → Reps g F es us → Reps g F (ds ++ es) (vs ++ us)
  | [], es, vs, us, h, t => by rw [Reps.nil_iff.mp h]; exact t
  | d :: ds, es, vs, us, h, t => by
    obtain ⟨v, r, e1, e2, e3⟩ := Reps.cons_iff.mp h
    rw [e1]
    exact Reps.cons e2 (Reps.append e3 t)
theorem Reps.set {d : D} {v : V} (hv : Rep g F d v) : ∀ {ds : List D} {vs : List V} (i : Nat), Reps g F ds vs → Reps g F (ds.set i d) (vs.set i v)
  | [], _, _, h => by rw [Reps.nil_iff.mp h]; exact Reps.nil
  | e :: ds, vs, 0, h => by
    obtain ⟨u, r, e1, e2, e3⟩ := Reps.cons_iff.mp h
    rw [e1]; exact Reps.cons hv e3
  | e :: ds, vs, i + 1, h => by
    obtain ⟨u, r, e1, e2, e3⟩ := Reps.cons_iff.mp h
    rw [e1]; exact Reps.cons e2 (Reps.set hv i e3)
theorem Reps.take : ∀ {ds : List D} {vs : List V} (n : Nat), Reps g F ds vs → Reps g F (ds.take n) (vs.take n)
  | _, _, 0, _ => by rw [List.take_zero, List.take_zero]; exact Reps.nil
  | [], _, n + 1, h => by rw [Reps.nil_iff.mp h]; exact Reps.nil
  | e :: ds, vs, n + 1, h => by
    obtain ⟨u, r, e1, e2, e3⟩ := Reps.cons_iff.mp h
    rw [e1]; exact Reps.cons e2 (Reps.take n e3)
theorem Reps.drop : ∀ {ds : List D} {vs : List V} (n : Nat), Reps g F ds vs → Reps g F (ds.drop n) (vs.drop n)
  | _, _, 0, h => by rw [List.drop_zero, List.drop_zero]; exact h
  | [], _, n + 1, h => by rw [Reps.nil_iff.mp h]; exact Reps.nil
  | e :: ds, vs, n + 1, h => by
    obtain ⟨u, r, e1, e2, e3⟩ := Reps.cons_iff.mp h
    rw [e1]; exact Reps.drop n e3
theorem Reps.rep {ds : List D} {vs : List V} (h : Reps g F ds vs) : ∀ k : Nat, Reps g F (List.replicate k ds).flatten (List.replicate k vs).flatten
  | 0 => Reps.nil
  | k + 1 => by
    rw [List.replicate_succ, List.replicate_succ, List.flatten_cons, List.flatten_cons]
    exact h.append (Reps.rep h k)
end
def CellOk (g : G) (F H : Hp) (as : List Addr) (a : Addr) : C → Prop
  | .lst ds => F a = none ∧ ∃ vs, H a = some (.lst vs) ∧ Reps g F ds vs
  | .frz d => Rep g F d (.ref a)
  | .ins c fs => F a = none ∧ ∃ dx vs, H a = some (.ins (g.cad c) dx ((fs.map (·.1)).zip vs)) ∧ vs.length = fs.length ∧ Reps g F (fs.map (·.2)) vs
  | .pot j ds => F a = none ∧ ∃ b us, as[j]? = some b ∧ H a = some (.lst (.ref b :: us)) ∧ Reps g F ds us
  | .dct kvs => F a = none ∧ ∃ ws, H a = some (.dK ws) ∧ Paired (fun (p : Key × D) (q : Key × V) => p.1 = q.1 ∧ Rep g F p.2 q.2) kvs ws
  | .bk c fs => F a = none ∧ ∃ (dx : Addr) (bs : List Addr), H a = some (.ins (g.cad c) dx ((fs.map (·.1)).zip (bs.map V.ref))) ∧ bs.length = fs.length ∧ ∀ (i : Nat) (q : Str × Nat), fs[i]? = some q → ∃ b, bs[i]? = some b ∧ as[q.2]? = some b
/-- the tables of code objects -/
def TbOk (g : G) (F : Hp) (as : List Addr) (H : Hp) : Prop := ∀ p ∈ g.tbs, ∃ ps : Array Value, H p.1 = some (.tbl ps) ∧ TriplesOk ps.toList ∧ (F p.1 = none ∧ p.1 ∉ as) ∧ ∀ (pos : Pos) (cv : Value), codeAmong pos ps.toList = some cv → ∃ c, cv = .ref c ∧ F c = some (LamX.CodeO c p.2)
theorem TbOk.of {g : G} {F F' H H' : Hp} {as as' : List Addr} (t : TbOk g F as H) (hH : ∀ b ps, H b = some (.tbl ps) → b ∉ as → H' b = some (.tbl ps)) (hF : Same F F') (hn : ∀ b ps, H b = some (.tbl ps) → F b = none → b ∉ as → F' b = none ∧ b ∉ as') : TbOk g F' as' H' := fun p hp => by
  obtain ⟨ps, h1, h2, h3, h4⟩ := t p hp
  refine ⟨ps, hH _ _ h1 h3.2, h2, hn _ _ h1 h3.1 h3.2, fun pos cv hc => ?_⟩
  obtain ⟨c, e1, e2⟩ := h4 pos cv hc
  exact ⟨c, e1, hF _ _ e2⟩
structure SR (g : G) (F : Hp) (as : List Addr) (μ : Sto) (H : Hp) : Prop where
  sub : Same F H
  len : as.length = μ.length
  cells : ∀ (k : Nat) (a : Addr) (c : C), as[k]? = some a → μ[k]? = some c → CellOk g F H (as.take k) a c
  nd : as.Nodup
  live : ∀ a, a ∈ as → ∃ o, H a = some o
  tb : TbOk g F as H
/-- the frozen part grows, cells come behind -/
def Ext (F : Hp) (as : List Addr) (F' : Hp) (as' : List Addr) : Prop := Same F F' ∧ ∃ l, as' = as ++ l
theorem Ext.refl {F : Hp} {as : List Addr} : Ext F as F as := ⟨Same.refl _, [], (List.append_nil _).symm⟩
theorem Ext.trans {F F1 F2 : Hp} {as as1 as2 : List Addr} (a : Ext F as F1 as1) (b : Ext F1 as1 F2 as2) : Ext F as F2 as2 := by
  obtain ⟨a1, l, e1⟩ := a
  obtain ⟨b1, m, e2⟩ := b
  exact ⟨a1.trans b1, l ++ m, by rw [e2, e1, List.append_assoc]⟩
/-- what a slot's thing stands for -/
def RS (g : G) (F : Hp) (as : List Addr) : S → V → Prop
  | .val d, v => Rep g F d v
  | .cell k, v => ∃ a, as[k]? = some a ∧ v = .ref a
  | .fr _, _ => False
  | .pot _ _ _, _ => False
  | .any, _ => True
/-- what an expression's answer stands for -/
def RA (g : G) (F : Hp) (as : List Addr) (H : Hp) : S → V → Prop
  | .fr ds, v => ∃ p vs, v = .ref p ∧ H p = some (.lst vs) ∧ F p = none ∧ p ∉ as ∧ Reps g F ds vs
  | .pot none is ds, v => ∃ p q vs us, v = .ref p ∧ H p = some (.lst (.ref q :: us)) ∧ F p = none ∧ p ∉ as ∧ H q = some (.lst vs) ∧ F q = none ∧ q ∉ as ∧ p ≠ q ∧ Reps g F is vs ∧ Reps g F ds us
  | .pot (some j) _ ds, v => ∃ p b us, v = .ref p ∧ H p = some (.lst (.ref b :: us)) ∧ F p = none ∧ p ∉ as ∧ as[j]? = some b ∧ Reps g F ds us
  | s, v => RS g F as s v
theorem RS.ra {g : G} {F : Hp} {as : List Addr} {H : Hp} {s : S} {v : V} (h : RS g F as s v) : RA g F as H s v := by
  cases s with
  | fr ds => exact (show False from h).elim
  | pot j is ds => exact (show False from h).elim
  | _ => exact h
theorem RS.mono {g : G} {F F' : Hp} {as as' : List Addr} {s : S} {v : V} (e : Ext F as F' as') (h : RS g F as s v) : RS g F' as' s v := by
  cases s with
  | val d => exact Rep.mono e.1 h
  | cell k =>
    obtain ⟨a, h1, h2⟩ := (show ∃ a, as[k]? = some a ∧ v = .ref a from h)
    obtain ⟨_, l, rfl⟩ := e
    exact ⟨a, by rw [List.getElem?_append_left (List.getElem?_eq_some_iff.mp h1).1]; exact h1, h2⟩
  | fr ds => exact h
  | pot j is ds => exact h
  | any => trivial
/-- the slots -/
structure ER (g : G) (F : Hp) (as : List Addr) (ρ : En) (σ : St) : Prop where
  len : ρ.length ≤ σ.length
  at_ : ∀ (i : Nat) (s : S), ρ[i]? = some (some s) → ∃ v, σ[i]? = some (some v) ∧ RS g F as s v
theorem ER.mono {g : G} {F F' : Hp} {as as' : List Addr} {ρ : En} {σ : St} (e : Ext F as F' as') (h : ER g F as ρ σ) : ER g F' as' ρ σ := ⟨h.len, fun i s q => by
  obtain ⟨v, h1, h2⟩ := h.at_ i s q
  exact ⟨v, h1, h2.mono e⟩⟩
theorem ER.set {g : G} {F : Hp} {as : List Addr} {ρ : En} {σ : St} {i : Nat} {s : S} {v : V} (h : ER g F as ρ σ) (r : RS g F as s v) : ER g F as (ρ.set i (some s)) (σ.set i (some v)) := by
  refine ⟨by rw [List.length_set, List.length_set]; exact h.len, fun j t q => ?_⟩
  by_cases e : j = i
  · subst e
    by_cases hj : j < ρ.length
    · rw [List.getElem?_set_self hj] at q
      cases q
      exact ⟨v, List.getElem?_set_self (Nat.lt_of_lt_of_le hj h.len), r⟩
    · rw [List.getElem?_eq_none (by rw [List.length_set]; omega)] at q
      cases q
  · rw [List.getElem?_set_ne (Ne.symm e)] at q
    rw [List.getElem?_set_ne (Ne.symm e)]
    exact h.at_ j t q
section
variable {g : G} {F H : Hp} {as : List Addr} {μ : Sto} {p : Addr} {o : HO}
theorem same_upd {H : Hp} {p : Addr} {o : HO} (h : H p = none) : Same H (upd H p o) := fun b u e => by rw [upd_ne (ne_of_none e h)]; exact e
theorem CellOk.mono {F' H' : Hp} {a : Addr} {bs : List Addr} (e : Same F F') (hF : F a = none → F' a = none) (hH : H' a = H a) : ∀ {c : C}, CellOk g F H bs a c → CellOk g F' H' bs a c
  | .lst ds, h => by
    obtain ⟨h0, vs, h1, h2⟩ := h
    exact ⟨hF h0, vs, by rw [hH]; exact h1, h2.mono e⟩
  | .frz d, h => Rep.mono e (show Rep g F d (.ref a) from h)
  | .ins c fs, h => by
    obtain ⟨h0, dx, vs, h1, h2, h3⟩ := h
    exact ⟨hF h0, dx, vs, by rw [hH]; exact h1, h2, h3.mono e⟩
  | .pot j ds, h => by
    obtain ⟨h0, b, us, h1, h2, h3⟩ := h
    exact ⟨hF h0, b, us, h1, by rw [hH]; exact h2, h3.mono e⟩
  | .dct kvs, h => by
    obtain ⟨h0, ws, h1, h2⟩ := h
    exact ⟨hF h0, ws, by rw [hH]; exact h1, Paired.mapP h2 fun _ _ z => ⟨z.1, z.2.mono e⟩⟩
  | .bk c fs, h => by
    obtain ⟨h0, dx, bs, h1, h2, h3⟩ := h
    exact ⟨hF h0, dx, bs, by rw [hH]; exact h1, h2, h3⟩
/-- a new object, at once frozen -/
theorem SR.frozen (r : SR g F as μ H) (hp : H p = none) : SR g (upd F p o) as μ (upd H p o) ∧ Ext F as (upd F p o) as ∧ upd F p o p = some o := by
  have fp : F p = none := r.sub.free hp
  have ne : ∀ a, a ∈ as → a ≠ p := fun a ha => by
    obtain ⟨u, e⟩ := r.live a ha
    exact ne_of_none e hp
  have s1 : Same F (upd F p o) := same_upd fp
  refine ⟨⟨fun b u e => ?_, r.len, fun k a c e1 e2 => ?_, r.nd, fun a ha => ?_, r.tb.of (fun b ps e _ => by rw [upd_ne (ne_of_none e hp)]; exact e) s1 fun b ps e n m => ⟨by rw [upd_ne (ne_of_none e hp)]; exact n, m⟩⟩, ⟨s1, [], (List.append_nil _).symm⟩, upd_same⟩
  · by_cases hb : b = p
    · rw [hb, upd_same] at e; rw [hb, upd_same]; exact e
    · rw [upd_ne hb] at e; rw [upd_ne hb]; exact r.sub _ _ e
  · have na := ne a (List.mem_of_getElem? e1)
    exact (r.cells k a c e1 e2).mono s1 (fun z => by rw [upd_ne na]; exact z) (upd_ne na)
  · rw [upd_ne (ne a ha)]; exact r.live a ha
/-- a new object that nothing holds yet -/
theorem SR.loose (r : SR g F as μ H) (hp : H p = none) : SR g F as μ (upd H p o) ∧ F p = none ∧ p ∉ as := by
  have fp : F p = none := r.sub.free hp
  have ne : ∀ a, a ∈ as → a ≠ p := fun a ha => by
    obtain ⟨u, e⟩ := r.live a ha
    exact ne_of_none e hp
  refine ⟨⟨r.sub.trans (same_upd hp), r.len, fun k a c e1 e2 => ?_, r.nd, fun a ha => ?_, r.tb.of (fun b ps e _ => by rw [upd_ne (ne_of_none e hp)]; exact e) (Same.refl _) fun b ps e n m => ⟨n, m⟩⟩, fp, fun hm => ne p hm rfl⟩
  · have na := ne a (List.mem_of_getElem? e1)
    exact (r.cells k a c e1 e2).mono (Same.refl _) (fun z => z) (upd_ne na)
  · rw [upd_ne (ne a ha)]; exact r.live a ha
/-- a loose list is frozen -/
theorem SR.freeze {vs : List V} (r : SR g F as μ H) (hp : H p = some o) (fp : F p = none) (na : p ∉ as) (ho : ∀ ps, o ≠ .tbl ps := by intro ps z; cases z) : SR g (upd F p o) as μ H ∧ Ext F as (upd F p o) as ∧ upd F p o p = some o := by
  have ne : ∀ a, a ∈ as → a ≠ p := fun a ha e => na (e ▸ ha)
  have s1 : Same F (upd F p o) := same_upd fp
  refine ⟨⟨fun b u e => ?_, r.len, fun k a c e1 e2 => ?_, r.nd, r.live, r.tb.of (fun b ps e _ => e) s1 fun b ps e n m => ⟨by rw [upd_ne (fun z => ho ps (Option.some.inj (hp.symm.trans (by rw [← z]; exact e))))]; exact n, m⟩⟩, ⟨s1, [], (List.append_nil _).symm⟩, upd_same⟩
  · by_cases hb : b = p
    · rw [hb, upd_same] at e; rw [hb, ← e]; exact hp
    · rw [upd_ne hb] at e; exact r.sub _ _ e
  · have na := ne a (List.mem_of_getElem? e1)
    exact (r.cells k a c e1 e2).mono s1 (fun z => by rw [upd_ne na]; exact z) rfl
/-- a loose object becomes a cell -/
theorem SR.push {c : C} (r : SR g F as μ H) (hp : H p = some o) (na : p ∉ as) (hc : CellOk g F H as p c) (ho : ∀ ps, o ≠ .tbl ps := by intro ps z; cases z) : SR g F (as ++ [p]) (μ ++ [c]) H ∧ Ext F as F (as ++ [p]) := by
  refine ⟨⟨r.sub, by rw [List.length_append, List.length_append, r.len]; rfl, fun k a c' e1 e2 => ?_, ?_, fun a ha => ?_, r.tb.of (fun b ps e _ => e) (Same.refl _) fun b ps e n m => ⟨n, fun hm => (List.mem_append.mp hm).elim m fun z => ho ps (Option.some.inj (hp.symm.trans (by rw [← List.mem_singleton.mp z]; exact e)))⟩⟩, Same.refl _, [p], rfl⟩
  · by_cases hk : k < as.length
    · rw [List.getElem?_append_left hk] at e1
      rw [List.getElem?_append_left (by rw [← r.len]; exact hk)] at e2
      rw [List.take_append_of_le_length (Nat.le_of_lt hk)]
      exact r.cells k a c' e1 e2
    · rw [List.getElem?_append_right (by omega)] at e1
      rw [List.getElem?_append_right (by have := r.len; omega)] at e2
      rw [r.len] at e1
      cases hz : k - μ.length with
      | zero =>
        rw [hz] at e1 e2
        simp only [List.getElem?_cons_zero, Option.some.injEq] at e1 e2
        subst e1 e2
        have ek : k = as.length := by have := r.len; omega
        rw [ek, List.take_left]
        exact hc
      | succ n => rw [hz] at e1; simp at e1
  · rw [List.nodup_append]
    exact ⟨r.nd, by simp, fun a ha b hb => by
      have : b = p := by simpa using hb
      subst this
      exact fun e => na (e ▸ ha)⟩
  · rcases List.mem_append.mp ha with h | h
    · exact r.live a h
    · have : a = p := by simpa using h
      subst this
      exact ⟨o, hp⟩
theorem nd_at {as : List Addr} (nd : as.Nodup) {i j : Nat} {a : Addr} (hi : as[i]? = some a) (hj : as[j]? = some a) : i = j := by
  obtain ⟨h1, e1⟩ := List.getElem?_eq_some_iff.mp hi
  obtain ⟨h2, e2⟩ := List.getElem?_eq_some_iff.mp hj
  exact (List.getElem_inj nd).mp (e1.trans e2.symm)
/-- a cell's object changed -/
theorem SR.write {k : Nat} {a : Addr} {c : C} (r : SR g F as μ H) (ha : as[k]? = some a) (fa : F a = none) (hc : CellOk g F (upd H a o) (as.take k) a c) : SR g F as (μ.set k c) (upd H a o) := by
  refine ⟨fun b u e => ?_, by rw [List.length_set]; exact r.len, fun j b c' e1 e2 => ?_, r.nd, fun b hb => ?_, r.tb.of (fun b ps e m => by rw [upd_ne (fun z => m (by rw [z]; exact List.mem_of_getElem? ha))]; exact e) (Same.refl _) fun b ps e n m => ⟨n, m⟩⟩
  · have nb : b ≠ a := fun z => by rw [z, fa] at e; cases e
    rw [upd_ne nb]; exact r.sub _ _ e
  · by_cases hj : j = k
    · subst hj
      rw [ha] at e1
      have hl : j < μ.length := by rw [← r.len]; exact (List.getElem?_eq_some_iff.mp ha).1
      rw [List.getElem?_set_self hl] at e2
      cases e1; cases e2
      exact hc
    · rw [List.getElem?_set_ne (Ne.symm hj)] at e2
      have nb : b ≠ a := fun z => hj (nd_at r.nd e1 (z ▸ ha))
      exact (r.cells j b c' e1 e2).mono (Same.refl _) (fun z => z) (upd_ne nb)
  · by_cases z : b = a
    · subst z; exact ⟨o, upd_same⟩
    · rw [upd_ne z]; exact r.live b hb
/-- a list cell is frozen where it stands -/
theorem SR.still {k : Nat} {a : Addr} {d : D} (r : SR g F as μ H) (ha : as[k]? = some a) (hp : H a = some o) (fa : F a = none) (hd : Rep g (upd F a o) d (.ref a)) : SR g (upd F a o) as (μ.set k (.frz d)) H ∧ Ext F as (upd F a o) as := by
  have s1 : Same F (upd F a o) := same_upd fa
  refine ⟨⟨fun b u e => ?_, by rw [List.length_set]; exact r.len, fun j b c' e1 e2 => ?_, r.nd, r.live, r.tb.of (fun b ps e _ => e) s1 fun b ps e n m => ⟨by rw [upd_ne (fun z => m (by rw [z]; exact List.mem_of_getElem? ha))]; exact n, m⟩⟩, s1, [], (List.append_nil _).symm⟩
  · by_cases hb : b = a
    · rw [hb, upd_same] at e; rw [hb, ← e]; exact hp
    · rw [upd_ne hb] at e; exact r.sub _ _ e
  · by_cases hj : j = k
    · subst hj
      rw [ha] at e1
      have hl : j < μ.length := by rw [← r.len]; exact (List.getElem?_eq_some_iff.mp ha).1
      rw [List.getElem?_set_self hl] at e2
      cases e1; cases e2
      exact hd
    · rw [List.getElem?_set_ne (Ne.symm hj)] at e2
      have nb : b ≠ a := fun z => hj (nd_at r.nd e1 (z ▸ ha))
      exact (r.cells j b c' e1 e2).mono s1 (fun z => by rw [upd_ne nb]; exact z) rfl
/-- the store cut back -/
theorem SR.cut (r : SR g F as μ H) (n : Nat) : SR g F (as.take n) (μ.take n) H := by
  refine ⟨r.sub, by rw [List.length_take, List.length_take, r.len], fun k a c e1 e2 => ?_, r.nd.sublist (List.take_sublist _ _), fun a ha => r.live a (List.mem_of_mem_take ha), r.tb.of (fun b ps e _ => e) (Same.refl _) fun b ps e n m => ⟨n, fun hm => m (List.mem_of_mem_take hm)⟩⟩
  have hk : k < n := by
    by_cases h : k < n
    · exact h
    · rw [List.getElem?_take_eq_none (by omega)] at e1; cases e1
  rw [List.getElem?_take_of_lt hk] at e1 e2
  rw [List.take_take, Nat.min_eq_left (Nat.le_of_lt hk)]
  exact r.cells k a c e1 e2
end
end Sz
set_option Elab.async false
set_option linter.all false
set_option maxRecDepth 100000
set_option maxHeartbeats 4000000
namespace Sz
open PySem PySem.Spec L2
section
variable (X : Cx)
abbrev wpE (e : Expr) : TE := fun σ H Q => ∀ (pins : List (Addr × Obj)) (s : Shared), Inv X pins σ H s → wpAny (model X.prog X.w) X.A (eval e X.env) (EP X pins σ Q) X.xe s
abbrev wpT (e : Expr) : TT := fun σ H Q => ∀ (pins : List (Addr × Obj)) (s : Shared), Inv X pins σ H s → wpAny (model X.prog X.w) X.A (isTrue e X.env (eval e X.env)) (TP X pins σ Q) X.xe s
abbrev wpW (e : Expr) : TT := fun σ H Q => ∀ (whole : Sem Value) (pins : List (Addr × Obj)) (s : Shared), Inv X pins σ H s → wpAny (model X.prog X.w) X.A (isTrue e X.env whole) (TP X pins σ Q) X.xe s
abbrev wpA (es : List Expr) : TA := fun σ H Q => ∀ (pos : Pos) (pins : List (Addr × Obj)) (s : Shared), Inv X pins σ H s → wpAny (model X.prog X.w) X.A (spliced (backTo pos (starEach es X.env))) (AP X pins σ Q) X.xe s
abbrev wpK (ks : List Keyword) : TA := fun σ H Q => ∀ (pos : Pos) (pins : List (Addr × Obj)) (s : Shared), Inv X pins σ H s → wpAny (model X.prog X.w) X.A (evalAll ((backToKw pos (keywordEach ks X.env)).map (·.2))) (AP X pins σ Q) X.xe s
abbrev wpS (st : Stmt) : TS := fun D σ H => ∀ (pins : List (Addr × Obj)) (s : Shared), Inv X pins σ H s → wpAny (model X.prog X.w) X.A (exec st X.env) (SP X pins D) X.xe s
abbrev wpB (st : List Stmt) : TS := fun D σ H => ∀ (pins : List (Addr × Obj)) (s : Shared), Inv X pins σ H s → wpAny (model X.prog X.w) X.A (execs st X.env) (SP X pins D) X.xe s
end
section
variable {X : Cx} {e : Expr} {es : List Expr} {ks : List Keyword} {st : Stmt} {sts : List Stmt} {σ : L2.St} {H : Hp} {Q : VK}
theorem pe_wp : PE X e (wpE X e) := ⟨fun pins s _ _ _ I h => h pins s I⟩
theorem pt_wp : PT X e (wpT X e) := ⟨fun pins s _ _ _ I h => h pins s I⟩
theorem pw_wp : PW X e (wpW X e) := ⟨fun wh pins s _ _ _ I h => h wh pins s I⟩
theorem pa_wp : PA X es (wpA X es) := ⟨fun pos pins s _ _ _ I h => h pos pins s I⟩
theorem pk_wp : PK X ks (wpK X ks) := ⟨fun pos pins s _ _ _ I h => h pos pins s I⟩
theorem ps_wp : PS X st (wpS X st) := ⟨fun pins s _ _ _ I h => h pins s I⟩
theorem pss_wp : PSs X sts (wpB X sts) := ⟨fun pins s _ _ _ I h => h pins s I⟩
theorem wE {t : TE} (h : PE X e t) (q : t σ H Q) : wpE X e σ H Q := fun pins s I => h.run pins s σ H Q I q
theorem wT {t : TT} {Q : Bool → Hp → Prop} (h : PT X e t) (q : t σ H Q) : wpT X e σ H Q := fun pins s I => h.run pins s σ H Q I q
theorem wW {t : TT} {Q : Bool → Hp → Prop} (h : PW X e t) (q : t σ H Q) : wpW X e σ H Q := fun wh pins s I => h.run wh pins s σ H Q I q
theorem wA {t : TA} {Q : List V → Hp → Prop} (h : PA X es t) (q : t σ H Q) : wpA X es σ H Q := fun pos pins s I => h.run pos pins s σ H Q I q
theorem wK {t : TA} {Q : List V → Hp → Prop} (h : PK X ks t) (q : t σ H Q) : wpK X ks σ H Q := fun pos pins s I => h.run pos pins s σ H Q I q
theorem wS {t : TS} {D : Ends} (h : PS X st t) (q : t D σ H) : wpS X st D σ H := fun pins s I => h.run pins s σ H D I q
theorem wB {t : TS} {D : Ends} (h : PSs X sts t) (q : t D σ H) : wpB X sts D σ H := fun pins s I => h.run pins s σ H D I q
end
/-- what an exception stands for -/
def RX (g : G) (F H : Hp) : Ex → Value → Option Addr → Prop
  | .own c fs, cls, d => cls = .ref (g.cad c) ∧ ((fs = [] ∧ d = none) ∨ ∃ a vs, fs ≠ [] ∧ d = some a ∧ H a = some (.xd ((g.fl c).zip vs)) ∧ vs.length = (g.fl c).length ∧ Reps g F fs vs)
/-- what is wanted of an exception -/
def PErr (g : G) (W : WX) (F : Hp) (as : List Addr) (σ : L2.St) (x : Ex) (μ' : Sto) : Prop :=
  ∀ F' as' cls d H', Ext F as F' as' → SR g F' as' μ' H' → RX g F' H' x cls d → W cls d σ H'
def PostE (g : G) (W : WX) (F : Hp) (as : List Addr) (σ : L2.St) (Q : VK) : Except Ex S → Sto → Prop
  | .ok s, μ' => ∀ F' as' v H', Ext F as F' as' → SR g F' as' μ' H' → RA g F' as' H' s v → Q v H'
  | .error x, μ' => PErr g W F as σ x μ'
def PostT (g : G) (W : WX) (F : Hp) (as : List Addr) (σ : L2.St) (Q : Bool → Hp → Prop) : Except Ex Bool → Sto → Prop
  | .ok b, μ' => ∀ F' as' H', Ext F as F' as' → SR g F' as' μ' H' → Q b H'
  | .error x, μ' => PErr g W F as σ x μ'
def RSs (g : G) (F : Hp) (as : List Addr) (ss : List S) (vs : List V) : Prop := Paired (RS g F as) ss vs
def PostA (g : G) (W : WX) (F : Hp) (as : List Addr) (σ : L2.St) (Q : List V → Hp → Prop) : Except Ex (List S) → Sto → Prop
  | .ok ss, μ' => ∀ F' as' vs H', Ext F as F' as' → SR g F' as' μ' H' → RSs g F' as' ss vs → Q vs H'
  | .error x, μ' => PErr g W F as σ x μ'
theorem PErr.ext {g : G} {W : WX} {F F1 : Hp} {as as1 : List Addr} {σ : L2.St} {x : Ex} {μ : Sto} (e : Ext F as F1 as1) (h : PErr g W F as σ x μ) : PErr g W F1 as1 σ x μ :=
  fun F' as' cls d H' e' r q => h F' as' cls d H' (e.trans e') r q
theorem RSs.mono {g : G} {F F' : Hp} {as as' : List Addr} {ss : List S} {vs : List V} (e : Ext F as F' as') (h : RSs g F as ss vs) : RSs g F' as' ss vs := Paired.mapP h fun _ _ r => r.mono e
/-- a run of the shallow code: tests, argument lists -/
abbrev MT := En → Sto → Option (Except Ex Bool × Sto)
abbrev MA := En → Sto → Option (Except Ex (List S) × Sto)
structure SE (g : G) (X : Cx) (W : WX) (e : Expr) (m : ME) : Prop where
  run : ∀ (F : Hp) (as : List Addr) (ρ : En) (μ : Sto) (σ : L2.St) (H : Hp) (Q : VK) (r : Except Ex S) (μ' : Sto), m ρ μ = some (r, μ') → SR g F as μ H → ER g F as ρ σ → PostE g W F as σ Q r μ' → wpE X e σ H Q
structure STe (g : G) (X : Cx) (W : WX) (e : Expr) (m : MT) : Prop where
  run : ∀ (F : Hp) (as : List Addr) (ρ : En) (μ : Sto) (σ : L2.St) (H : Hp) (Q : Bool → Hp → Prop) (r : Except Ex Bool) (μ' : Sto), m ρ μ = some (r, μ') → SR g F as μ H → ER g F as ρ σ → PostT g W F as σ Q r μ' → wpT X e σ H Q
structure SW (g : G) (X : Cx) (W : WX) (e : Expr) (m : MT) : Prop where
  run : ∀ (F : Hp) (as : List Addr) (ρ : En) (μ : Sto) (σ : L2.St) (H : Hp) (Q : Bool → Hp → Prop) (r : Except Ex Bool) (μ' : Sto), m ρ μ = some (r, μ') → SR g F as μ H → ER g F as ρ σ → PostT g W F as σ Q r μ' → wpW X e σ H Q
structure SA (g : G) (X : Cx) (W : WX) (es : List Expr) (m : MA) : Prop where
  run : ∀ (F : Hp) (as : List Addr) (ρ : En) (μ : Sto) (σ : L2.St) (H : Hp) (Q : List V → Hp → Prop) (r : Except Ex (List S)) (μ' : Sto), m ρ μ = some (r, μ') → SR g F as μ H → ER g F as ρ σ → PostA g W F as σ Q r μ' → wpA X es σ H Q
structure SK (g : G) (X : Cx) (W : WX) (ks : List Keyword) (m : MA) : Prop where
  run : ∀ (F : Hp) (as : List Addr) (ρ : En) (μ : Sto) (σ : L2.St) (H : Hp) (Q : List V → Hp → Prop) (r : Except Ex (List S)) (μ' : Sto), m ρ μ = some (r, μ') → SR g F as μ H → ER g F as ρ σ → PostA g W F as σ Q r μ' → wpK X ks σ H Q
/-- one run behind another -/
def andThen {α β : Type} (r : Option (Except Ex α × Sto)) (f : α → Sto → Option (Except Ex β × Sto)) : Option (Except Ex β × Sto) :=
  match r with
  | none => none
  | some (.error x, μ) => some (.error x, μ)
  | some (.ok s, μ) => f s μ
theorem andThen_some {α β : Type} {r : Option (Except Ex α × Sto)} {f : α → Sto → Option (Except Ex β × Sto)} {q : Except Ex β × Sto} (h : andThen r f = some q) :
    (∃ x, r = some (.error x, q.2) ∧ q.1 = .error x) ∨ ∃ s μ, r = some (.ok s, μ) ∧ f s μ = some q := by
  unfold andThen at h
  match r, h with
  | none, h => cases h
  | some (.error x, μ), h =>
    cases h
    exact .inl ⟨x, rfl, rfl⟩
  | some (.ok s, μ), h => exact .inr ⟨s, μ, rfl, h⟩
section
variable {g : G} {X : Cx} {W : WX} {e : Expr} {m : ME} {F : Hp} {as : List Addr} {ρ : En} {μ : Sto} {σ : L2.St} {H : Hp} {β : Type}
/-- an expression, then what follows -/
theorem SE.then_ {Q : VK} {f : S → Sto → Option (Except Ex β × Sto)} {r : Except Ex β} {μ' : Sto} (he : SE g X W e m) (h : andThen (m ρ μ) f = some (r, μ')) (sr : SR g F as μ H) (er : ER g F as ρ σ)
    (hx : ∀ x, r = .error x → PErr g W F as σ x μ')
    (k : ∀ s μ1 F1 as1 v H1, f s μ1 = some (r, μ') → Ext F as F1 as1 → SR g F1 as1 μ1 H1 → ER g F1 as1 ρ σ → RA g F1 as1 H1 s v → Q v H1) : wpE X e σ H Q := by
  rcases andThen_some h with ⟨x, h1, h2⟩ | ⟨s, μ1, h1, h2⟩
  · exact he.run F as ρ μ σ H Q (.error x) μ' h1 sr er (hx x h2)
  · exact he.run F as ρ μ σ H Q (.ok s) μ1 h1 sr er fun F' as' v H' e' r' q => k s μ1 F' as' v H' h2 e' r' (er.mono e') q
theorem STe.then_ {e : Expr} {m : MT} {Q : Bool → Hp → Prop} {f : Bool → Sto → Option (Except Ex β × Sto)} {r : Except Ex β} {μ' : Sto} (he : STe g X W e m) (h : andThen (m ρ μ) f = some (r, μ')) (sr : SR g F as μ H) (er : ER g F as ρ σ)
    (hx : ∀ x, r = .error x → PErr g W F as σ x μ')
    (k : ∀ b μ1 F1 as1 H1, f b μ1 = some (r, μ') → Ext F as F1 as1 → SR g F1 as1 μ1 H1 → ER g F1 as1 ρ σ → Q b H1) : wpT X e σ H Q := by
  rcases andThen_some h with ⟨x, h1, h2⟩ | ⟨s, μ1, h1, h2⟩
  · exact he.run F as ρ μ σ H Q (.error x) μ' h1 sr er (hx x h2)
  · exact he.run F as ρ μ σ H Q (.ok s) μ1 h1 sr er fun F' as' H' e' r' => k s μ1 F' as' H' h2 e' r' (er.mono e')
theorem SA.then_ {es : List Expr} {m : MA} {Q : List V → Hp → Prop} {f : List S → Sto → Option (Except Ex β × Sto)} {r : Except Ex β} {μ' : Sto} (he : SA g X W es m) (h : andThen (m ρ μ) f = some (r, μ')) (sr : SR g F as μ H) (er : ER g F as ρ σ)
    (hx : ∀ x, r = .error x → PErr g W F as σ x μ')
    (k : ∀ ss μ1 F1 as1 vs H1, f ss μ1 = some (r, μ') → Ext F as F1 as1 → SR g F1 as1 μ1 H1 → ER g F1 as1 ρ σ → RSs g F1 as1 ss vs → Q vs H1) : wpA X es σ H Q := by
  rcases andThen_some h with ⟨x, h1, h2⟩ | ⟨s, μ1, h1, h2⟩
  · exact he.run F as ρ μ σ H Q (.error x) μ' h1 sr er (hx x h2)
  · exact he.run F as ρ μ σ H Q (.ok s) μ1 h1 sr er fun F' as' v H' e' r' q => k s μ1 F' as' v H' h2 e' r' (er.mono e') q
theorem SK.then_ {es : List Keyword} {m : MA} {Q : List V → Hp → Prop} {f : List S → Sto → Option (Except Ex β × Sto)} {r : Except Ex β} {μ' : Sto} (he : SK g X W es m) (h : andThen (m ρ μ) f = some (r, μ')) (sr : SR g F as μ H) (er : ER g F as ρ σ)
    (hx : ∀ x, r = .error x → PErr g W F as σ x μ')
    (k : ∀ ss μ1 F1 as1 vs H1, f ss μ1 = some (r, μ') → Ext F as F1 as1 → SR g F1 as1 μ1 H1 → ER g F1 as1 ρ σ → RSs g F1 as1 ss vs → Q vs H1) : wpK X es σ H Q := by
  rcases andThen_some h with ⟨x, h1, h2⟩ | ⟨s, μ1, h1, h2⟩
  · exact he.run F as ρ μ σ H Q (.error x) μ' h1 sr er (hx x h2)
  · exact he.run F as ρ μ σ H Q (.ok s) μ1 h1 sr er fun F' as' v H' e' r' q => k s μ1 F' as' v H' h2 e' r' (er.mono e') q
end
def rt : S → S
  | .fr ds => .val (.lst ds)
  | .pot _ _ _ => .any
  | s => s
def vw (μ : Sto) : S → Option D
  | .val d => some d
  | .fr ds => some (.lst ds)
  | .cell k => match μ[k]? with
    | some (.lst ds) => some (.lst ds)
    | some (.frz d) => some d
    | _ => none
  | _ => none
/-- a value as it stands now: a list at the top may still be changed later -/
def VR (g : G) (F H : Hp) (d : D) (v : V) : Prop := (∃ ds a vs, d = .lst ds ∧ v = .ref a ∧ H a = some (.lst vs) ∧ Reps g F ds vs) ∨ Rep g F d v
section
variable {g : G} {F H : Hp} {as : List Addr} {μ : Sto} {s : S} {v : V} {d : D}
theorem root_ok (sr : SR g F as μ H) (h : RA g F as H s v) : ∃ F', Ext F as F' as ∧ SR g F' as μ H ∧ RS g F' as (rt s) v := by
  cases s with
  | val d => exact ⟨F, .refl, sr, h⟩
  | cell k => exact ⟨F, .refl, sr, h⟩
  | fr ds =>
    obtain ⟨p, vs, e1, e2, e3, e4, e5⟩ := (show ∃ p vs, v = .ref p ∧ H p = some (.lst vs) ∧ F p = none ∧ p ∉ as ∧ Reps g F ds vs from h)
    obtain ⟨r, x, y⟩ := sr.freeze (vs := vs) e2 e3 e4
    refine ⟨_, x, r, ?_⟩
    show Rep g _ (.lst ds) v
    unfold Rep
    exact ⟨p, vs, e1, y, e5.mono x.1⟩
  | pot j is ds => exact ⟨F, .refl, sr, trivial⟩
  | any => exact ⟨F, .refl, sr, trivial⟩
theorem view_rs (sr : SR g F as μ H) (h : RS g F as s v) (e : vw μ s = some d) : VR g F H d v := by
  cases s with
  | val d' =>
    cases e
    exact .inr h
  | fr ds => exact (show False from h).elim
  | cell k =>
    obtain ⟨a, h1, h2⟩ := (show ∃ a, as[k]? = some a ∧ v = .ref a from h)
    unfold vw at e
    simp only at e
    cases q : μ[k]? with
    | none => rw [q] at e; cases e
    | some c =>
      rw [q] at e
      have ok := sr.cells k a c h1 q
      cases c with
      | lst ds =>
        cases e
        obtain ⟨_, vs, e1, e2⟩ := ok
        exact .inl ⟨ds, a, vs, rfl, h2, e1, e2⟩
      | frz d' =>
        cases e
        subst h2
        exact .inr ok
      | ins c fs => cases e
      | pot j ds => cases e
      | dct kvs => cases e
      | bk c fs => cases e
  | pot j is ds => cases e
  | any => cases e
theorem view_ra (sr : SR g F as μ H) (h : RA g F as H s v) (e : vw μ s = some d) : VR g F H d v := by
  cases s with
  | val d' => exact view_rs (s := .val d') sr h e
  | cell k => exact view_rs (s := .cell k) sr h e
  | fr ds =>
    obtain ⟨p, vs, e1, e2, e3, e4, e5⟩ := (show ∃ p vs, v = .ref p ∧ H p = some (.lst vs) ∧ F p = none ∧ p ∉ as ∧ Reps g F ds vs from h)
    cases e
    exact .inl ⟨ds, p, vs, rfl, e1, e2, e5⟩
  | pot j is ds => cases e
  | any => cases e
/-- a slot's thing as a tree: a cell's list is frozen there -/
def toD (μ : Sto) : S → Option (D × Sto)
  | .val d => some (d, μ)
  | .fr ds => some (.lst ds, μ)
  | .cell k => match μ[k]? with
    | some (.lst ds) => some (.lst ds, μ.set k (.frz (.lst ds)))
    | some (.frz d) => some (d, μ)
    | _ => none
  | _ => none
theorem toD_rs {μ' : Sto} (sr : SR g F as μ H) (h : RS g F as s v) (e : toD μ s = some (d, μ')) : ∃ F', Ext F as F' as ∧ SR g F' as μ' H ∧ Rep g F' d v := by
  cases s with
  | val d' =>
    cases e
    exact ⟨F, .refl, sr, h⟩
  | fr ds => exact (show False from h).elim
  | cell k =>
    obtain ⟨a, h1, h2⟩ := (show ∃ a, as[k]? = some a ∧ v = .ref a from h)
    unfold toD at e
    simp only at e
    cases q : μ[k]? with
    | none => rw [q] at e; cases e
    | some c =>
      rw [q] at e
      have ok := sr.cells k a c h1 q
      cases c with
      | lst ds =>
        cases e
        obtain ⟨e0, vs, e1, e2⟩ := ok
        have hr : Rep g (upd F a (.lst vs)) (.lst ds) (.ref a) := by
          unfold Rep
          exact ⟨a, vs, rfl, upd_same, e2.mono (same_upd e0)⟩
        obtain ⟨r, x⟩ := sr.still h1 e1 e0 hr
        exact ⟨_, x, r, by rw [h2]; exact hr⟩
      | frz d' =>
        cases e
        subst h2
        exact ⟨F, .refl, sr, ok⟩
      | ins c fs => cases e
      | pot j ds => cases e
      | dct kvs => cases e
      | bk c fs => cases e
  | pot j is ds => cases e
  | any => cases e
/-- several -/
def toDs (μ : Sto) : List S → Option (List D × Sto)
  | [] => some ([], μ)
  | s :: ss => match toD μ s with
    | none => none
    | some (d, μ1) => match toDs μ1 ss with
      | none => none
      | some (ds, μ2) => some (d :: ds, μ2)
theorem toDs_rs : ∀ {ss : List S} {vs : List V} {F : Hp} {μ μ' : Sto} {ds : List D}, SR g F as μ H → RSs g F as ss vs → toDs μ ss = some (ds, μ') → ∃ F', Ext F as F' as ∧ SR g F' as μ' H ∧ Reps g F' ds vs
  | [], _, F, μ, μ', ds, sr, h, e => by
    cases h
    cases e
    exact ⟨F, .refl, sr, Reps.nil⟩
  | s :: ss, vs, F, μ, μ', ds, sr, h, e => by
    cases h with
    | cons h t =>
      unfold toDs at e
      cases q : toD μ s with
      | none => rw [q] at e; cases e
      | some p =>
        obtain ⟨d, μ1⟩ := p
        rw [q] at e
        simp only at e
        obtain ⟨F1, x1, sr1, r1⟩ := toD_rs sr h q
        cases q2 : toDs μ1 ss with
        | none => rw [q2] at e; cases e
        | some p =>
          obtain ⟨ds', μ2⟩ := p
          rw [q2] at e
          cases e
          obtain ⟨F2, x2, sr2, r2⟩ := toDs_rs sr1 (RSs.mono x1 t) q2
          exact ⟨F2, x1.trans x2, sr2, Reps.cons (Rep.mono x2.1 r1) r2⟩
def vws (μ : Sto) : List S → Option (List D)
  | [] => some []
  | s :: ss => match vw μ s, vws μ ss with
    | some d, some ds => some (d :: ds)
    | _, _ => none
def VRs (g : G) (F H : Hp) (ds : List D) (vs : List V) : Prop := Paired (VR g F H) ds vs
theorem views_rs (sr : SR g F as μ H) : ∀ {ss : List S} {vs : List V} {ds : List D}, RSs g F as ss vs → vws μ ss = some ds → VRs g F H ds vs
  | [], _, _, h, e => by
    cases h
    cases e
    exact .nil
  | s :: ss, _, ds, .cons h t, e => by
    unfold vws at e
    cases q : vw μ s with
    | none => rw [q] at e; simp at e
    | some d =>
      cases q2 : vws μ ss with
      | none => rw [q, q2] at e; simp at e
      | some ds' =>
        rw [q, q2] at e
        simp only [Option.some.injEq] at e
        subst e
        exact .cons (view_rs sr h q) (views_rs sr t q2)
end
end Sz
set_option Elab.async false
set_option linter.all false
set_option maxRecDepth 100000
set_option maxHeartbeats 4000000
namespace Sz
open PySem PySem.Spec L2
def mVar (i : Nat) : ME := fun ρ μ => match ρ[i]? with
  | some (some s) => some (.ok s, μ)
  | _ => none
def mK (d : D) : ME := fun _ μ => some (.ok (.val d), μ)
section
variable {g : G} {X : Cx} {W : WX} {pos : Pos}
theorem se_var {i : Nat} {x : Str} (hN : X.N[i]? = some x) (hv : Vis X.env.scope x) (hd : (x == ("__debug__" : Str)) = false) (hcd : (x == ("__classdict__" : Str)) = false) : SE g X W (.Name x pos) (mVar i) := by
  refine ⟨fun F as ρ μ σ H Q r μ' h sr er post => ?_⟩
  unfold mVar at h
  split at h
  · rename_i s q
    cases h
    obtain ⟨v, e1, e2⟩ := er.at_ i s q
    exact wE (pe_var hN hv hd hcd) ⟨v, e1, post F as v H .refl sr e2.ra⟩
  · cases h
theorem se_k {e : Expr} {d : D} {v : V} (he : PE X e (tC v)) (rep : ∀ F, Rep g F d v) : SE g X W e (mK d) := by
  refine ⟨fun F as ρ μ σ H Q r μ' h sr er post => ?_⟩
  cases h
  exact wE he (post F as v H .refl sr (rep F))
theorem se_int {i : Int} {k : Nat} : SE g X W (.Constant (.int i) k pos) (mK (.int i)) := se_k pe_int fun F => by unfold Rep; rfl
theorem se_bl {b : Bool} {k : Nat} : SE g X W (.Constant (.bool b) k pos) (mK (.bl b)) := se_k pe_bl fun F => by unfold Rep; rfl
theorem se_non {k : Nat} : SE g X W (.Constant .none k pos) (mK .non) := se_k pe_non fun F => by unfold Rep; rfl
theorem se_str {x : Str} {k : Nat} : SE g X W (.Constant (.str x) k pos) (mK (.str x)) := se_k pe_str fun F => by unfold Rep; rfl
end
/-- an operation by its values, whatever the slots -/
abbrev rcan (X : Cx) (f : Value → Value → Sem Value) : R2 := fun x y H Q => ∀ (pins : List (Addr × Obj)) (s : Shared) (σ : L2.St) (v u : Value), Inv X pins σ H s → RelV x v → RelV y u → wpAny (model X.prog X.w) X.A (f v u) (EP X pins σ Q) X.xe s
theorem op_can {X : Cx} {f : Value → Value → Sem Value} : OpR X f (rcan X f) := fun pins s σ H x y v u Q I rx ry h => h pins s σ v u I rx ry
theorem oc {X : Cx} {f : Value → Value → Sem Value} {r : R2} (h : OpR X f r) {x y : V} {H : Hp} {Q : VK} (q : r x y H Q) : rcan X f x y H Q := fun pins s σ v u I rx ry => h pins s σ H x y v u Q I rx ry q
/-- what a two-place operation tells of trees -/
def OpOk (g : G) (X : Cx) (f : Value → Value → Sem Value) (op : D → D → Option S) : Prop :=
  ∀ (x y : D) (s : S) (F : Hp) (as : List Addr) (μ : Sto) (H : Hp) (v u : V) (Q : VK), op x y = some s → SR g F as μ H → VR g F H x v → VR g F H y u →
    (∀ F' as' w H', Ext F as F' as' → SR g F' as' μ H' → RA g F' as' H' s w → Q w H') → rcan X f v u H Q
def fin2 (op : D → D → Option S) (μ : Sto) (s1 s2 : S) : Option R :=
  match vw μ s1, vw μ s2 with
  | some x, some y => (match op x y with
    | some s => some (.ok s, μ)
    | none => none)
  | _, _ => none
theorem fin2_some {op : D → D → Option S} {μ μ' : Sto} {s1 s2 : S} {r : Except Ex S} (h : fin2 op μ s1 s2 = some (r, μ')) : ∃ x y s, vw μ s1 = some x ∧ vw μ s2 = some y ∧ op x y = some s ∧ r = .ok s ∧ μ' = μ := by
  unfold fin2 at h
  split at h
  · rename_i x y h1 h2
    split at h
    · rename_i s h3
      cases h
      exact ⟨x, y, s, h1, h2, h3, rfl, rfl⟩
    · cases h
  · cases h
def mOp2 (op : D → D → Option S) (a b : ME) : ME := fun ρ μ => andThen (a ρ μ) fun s1 μ1 => andThen (b ρ μ1) fun s2 μ2 => fin2 op μ2 (rt s1) s2
section
variable {g : G} {X : Cx} {W : WX} {a b : Expr} {ma mb : ME} {dop : D → D → Option S} {pos : Pos}
theorem two_ok {f : Value → Value → Sem Value} {F : Hp} {as : List Addr} {ρ : En} {μ : Sto} {σ : L2.St} {H : Hp} {Q : VK} {r : Except Ex S} {μ' : Sto} (ho : OpOk g X f dop) (ha : SE g X W a ma) (hb : SE g X W b mb)
    (h : mOp2 dop ma mb ρ μ = some (r, μ')) (sr : SR g F as μ H) (er : ER g F as ρ σ) (post : PostE g W F as σ Q r μ') : wpE X a σ H fun x H1 => wpE X b σ H1 fun y H2 => rcan X f x y H2 Q := by
  refine ha.then_ h sr er (fun x e => by subst e; exact post) fun s1 μ1 F1 as1 v1 H1 h1 x1 sr1 er1 ra1 => ?_
  obtain ⟨F1', x1', sr1', rs1⟩ := root_ok sr1 ra1
  refine hb.then_ h1 sr1' (er1.mono x1') (fun x e => by subst e; exact PErr.ext (x1.trans x1') post) fun s2 μ2 F2 as2 v2 H2 h2 x2 sr2 er2 ra2 => ?_
  obtain ⟨x, y, s, e1, e2, e3, e4, e5⟩ := fin2_some h2
  subst e4 e5
  exact ho x y s F2 as2 μ' H2 v1 v2 Q e3 sr2 (view_rs sr2 (rs1.mono x2) e1) (view_ra sr2 ra2 e2) fun F' as' w H' e' r' q => post F' as' w H' ((x1.trans x1').trans (x2.trans e')) r' q
theorem se_bin {op : Operator} (ho : OpOk g X (binaryOp op) dop) (ha : SE g X W a ma) (hb : SE g X W b mb) : SE g X W (.BinOp a op b pos) (mOp2 dop ma mb) :=
  ⟨fun F as ρ μ σ H Q r μ' h sr er post => wE (pe_op op_can pe_wp pe_wp) (two_ok ho ha hb h sr er post)⟩
theorem se_cmp {op : CmpOp} (ho : OpOk g X (compareOp op) dop) (ha : SE g X W a ma) (hb : SE g X W b mb) (hm : behindInMarks op b = false) : SE g X W (.Compare a [op] [b] pos) (mOp2 dop ma mb) :=
  ⟨fun F as ρ μ σ H Q r μ' h sr er post => wE (pe_cmpR op_can pe_wp pe_wp hm) (two_ok ho ha hb h sr er post)⟩
end
/-- a op1 b op2 c; both give truths -/
def bl? : S → Option Bool
  | .val (.bl b) => some b
  | _ => none
def mChain (op op' : D → D → Option S) (a b c : ME) : ME := fun ρ μ => andThen (a ρ μ) fun s1 μ1 => andThen (b ρ μ1) fun s2 μ2 => andThen (fin2 op μ2 (rt s1) (rt s2)) fun s3 μ3 => match bl? s3 with
  | some true => andThen (c ρ μ3) fun s4 μ4 => fin2 op' μ4 (rt s2) s4
  | some false => some (.ok (.val (.bl false)), μ3)
  | none => none
theorem bl?_some {s : S} {b : Bool} (h : bl? s = some b) : s = .val (.bl b) := by
  unfold bl? at h
  split at h
  · cases h; rfl
  · cases h
section
variable {g : G} {X : Cx} {W : WX} {a b c : Expr} {ma mb mc : ME} {dop dop' : D → D → Option S} {pos : Pos}
theorem chain_ok {op op' : CmpOp} {F : Hp} {as : List Addr} {ρ : En} {μ : Sto} {σ : L2.St} {H : Hp} {Q : VK} {r : Except Ex S} {μ' : Sto} (ho : OpOk g X (compareOp op) dop) (ho' : OpOk g X (compareOp op') dop') (ha : SE g X W a ma) (hb : SE g X W b mb) (hc : SE g X W c mc)
    (h : mChain dop dop' ma mb mc ρ μ = some (r, μ')) (sr : SR g F as μ H) (er : ER g F as ρ σ) (post : PostE g W F as σ Q r μ') : tChain (rcan X (compareOp op)) (rcan X (compareOp op')) (wpE X a) (wpE X b) (wpE X c) σ H Q := by
  refine ha.then_ h sr er (fun x e => by subst e; exact post) fun s1 μ1 F1 as1 v1 H1 h1 x1 sr1 er1 ra1 => ?_
  obtain ⟨F1', x1', sr1', rs1⟩ := root_ok sr1 ra1
  refine hb.then_ h1 sr1' (er1.mono x1') (fun x e => by subst e; exact PErr.ext (x1.trans x1') post) fun s2 μ2 F2 as2 v2 H2 h2 x2 sr2 er2 ra2 => ?_
  obtain ⟨F2', x2', sr2', rs2⟩ := root_ok sr2 ra2
  rcases andThen_some h2 with ⟨x, h3, h4⟩ | ⟨s3, μ3, h3, h4⟩
  · obtain ⟨_, _, _, _, _, _, e, _⟩ := fin2_some h3
    cases e
  · obtain ⟨x, y, s, e1, e2, e3, e4, e5⟩ := fin2_some h3
    cases e4
    subst e5
    have x02 : Ext F as F2' as2 := (x1.trans x1').trans (x2.trans x2')
    refine ho x y s3 F2' as2 μ3 H2 v1 v2 _ e3 sr2' (view_rs sr2' ((rs1.mono x2).mono x2') e1) (view_rs sr2' rs2 e2) fun F3 as3 w H3 x3 sr3 ra3 => ?_
    cases q : bl? s3 with
    | none => rw [q] at h4; cases h4
    | some k =>
      rw [q] at h4
      rw [bl?_some q] at ra3
      refine ⟨k, ra3, ?_⟩
      have er3 : ER g F3 as3 ρ σ := (er2.mono x2').mono x3
      cases k with
      | false =>
        rw [if_neg Bool.false_ne_true]
        cases h4
        exact post F3 as3 _ H3 (x02.trans x3) sr3 rfl
      | true =>
        rw [if_pos rfl]
        refine hc.then_ h4 sr3 er3 (fun x e => by subst e; exact PErr.ext (x02.trans x3) post) fun s4 μ4 F4 as4 v4 H4 h5 x4 sr4 er4 ra4 => ?_
        obtain ⟨x', y', s', e1', e2', e3', e4', e5'⟩ := fin2_some h5
        subst e4' e5'
        exact ho' x' y' s' F4 as4 μ' H4 v2 v4 Q e3' sr4 (view_rs sr4 ((rs2.mono x3).mono x4) e1') (view_ra sr4 ra4 e2') fun F' as' w' H' e' r' q' => post F' as' w' H' ((x02.trans x3).trans (x4.trans e')) r' q'
end
def fin1 (op : D → Option S) (μ : Sto) (s1 : S) : Option R :=
  match vw μ s1 with
  | some x => (match op x with
    | some s => some (.ok s, μ)
    | none => none)
  | _ => none
theorem fin1_some {op : D → Option S} {μ μ' : Sto} {s1 : S} {r : Except Ex S} (h : fin1 op μ s1 = some (r, μ')) : ∃ x s, vw μ s1 = some x ∧ op x = some s ∧ r = .ok s ∧ μ' = μ := by
  unfold fin1 at h
  split at h
  · rename_i x h1
    split at h
    · rename_i s h3
      cases h
      exact ⟨x, s, h1, h3, rfl, rfl⟩
    · cases h
  · cases h
def mOp1 (op : D → Option S) (a : ME) : ME := fun ρ μ => andThen (a ρ μ) fun s1 μ1 => fin1 op μ1 s1
def dNot : D → Option S
  | .bl b => some (.val (.bl (!b)))
  | _ => none
section
variable {g : G} {X : Cx} {W : WX} {a : Expr} {ma : ME} {pos : Pos} {F H : Hp} {v : V}
theorem vr_int {i : Int} (h : VR g F H (.int i) v) : v = .int i := by
  rcases h with ⟨_, _, _, e, _⟩ | h
  · cases e
  · unfold Rep at h; exact h
theorem vr_bl {b : Bool} (h : VR g F H (.bl b) v) : v = .bl b := by
  rcases h with ⟨_, _, _, e, _⟩ | h
  · cases e
  · unfold Rep at h; exact h
theorem vr_str {x : Str} (h : VR g F H (.str x) v) : v = .str x := by
  rcases h with ⟨_, _, _, e, _⟩ | h
  · cases e
  · unfold Rep at h; exact h
theorem vr_non (h : VR g F H .non v) : v = .non := by
  rcases h with ⟨_, _, _, e, _⟩ | h
  · cases e
  · unfold Rep at h; exact h
theorem vr_lst {as : List Addr} {μ : Sto} {ds : List D} (sr : SR g F as μ H) (h : VR g F H (.lst ds) v) : ∃ a vs, v = .ref a ∧ H a = some (.lst vs) ∧ Reps g F ds vs := by
  rcases h with ⟨ds', a, vs, e, e1, e2, e3⟩ | h
  · cases e
    exact ⟨a, vs, e1, e2, e3⟩
  · unfold Rep at h
    obtain ⟨a, vs, e1, e2, e3⟩ := h
    exact ⟨a, vs, e1, sr.sub _ _ e2, e3⟩
theorem vr_tup {as : List Addr} {μ : Sto} {ds : List D} (sr : SR g F as μ H) (h : VR g F H (.tup ds) v) : ∃ a vs, v = .ref a ∧ SqT g.K H a vs ∧ Reps g F ds vs := by
  rcases h with ⟨ds', a, vs, e, e1, e2, e3⟩ | h
  · cases e
  · unfold Rep at h
    obtain ⟨a, vs, e1, e2, e3⟩ := h
    exact ⟨a, vs, e1, seqT_mono sr.sub e2, e3⟩
theorem vr_scr {as : List Addr} {μ : Sto} {ns : List Int} (sr : SR g F as μ H) (h : VR g F H (.scr ns) v) : ∃ a, v = .ref a ∧ SqL g.K H a (ns.map V.int) := by
  rcases h with ⟨ds', a, vs, e, e1, e2, e3⟩ | h
  · cases e
  · unfold Rep at h
    obtain ⟨a, e1, e2⟩ := h
    exact ⟨a, e1, sr.sub.seq e2⟩
theorem ra_int {as : List Addr} {i : Int} : RA g F as H (.val (.int i)) (.int i) := by show Rep g F _ _; unfold Rep; rfl
theorem ra_bl {as : List Addr} {b : Bool} : RA g F as H (.val (.bl b)) (.bl b) := by show Rep g F _ _; unfold Rep; rfl
theorem ra_str {as : List Addr} {x : Str} : RA g F as H (.val (.str x)) (.str x) := by show Rep g F _ _; unfold Rep; rfl
theorem ra_non {as : List Addr} : RA g F as H (.val .non) .non := by show Rep g F _ _; unfold Rep; rfl
/-- not a, a truth (or a test) -/
theorem se_not (ha : SE g X W a ma) : SE g X W (.UnaryOp .Not a pos) (mOp1 dNot ma) := by
  refine ⟨fun F as ρ μ σ H Q r μ' h sr er post => wE (pe_not pe_wp) ?_⟩
  refine ha.then_ h sr er (fun x e => by subst e; exact post) fun s1 μ1 F1 as1 v1 H1 h1 x1 sr1 er1 ra1 => ?_
  obtain ⟨x, s, e1, e2, e3, e4⟩ := fin1_some h1
  subst e3 e4
  unfold dNot at e2
  split at e2
  · rename_i b
    cases e2
    exact ⟨b, vr_bl (view_ra sr1 ra1 e1), post F1 as1 _ H1 x1 sr1 ra_bl⟩
  · cases e2
end
def mAnd (a b : ME) : ME := fun ρ μ => andThen (a ρ μ) fun s μ1 => match bl? s with
  | some true => b ρ μ1
  | some false => some (.ok (.val (.bl false)), μ1)
  | none => none
section
variable {g : G} {X : Cx} {W : WX} {a b : Expr} {rest : List Expr} {ma mb : ME} {pos : Pos}
theorem se_one {op : BoolOp} (ha : SE g X W a ma) : SE g X W (.BoolOp op [a] pos) ma :=
  ⟨fun F as ρ μ σ H Q r μ' h sr er post => wE (pe_one pe_wp) (ha.run F as ρ μ σ H Q r μ' h sr er post)⟩
theorem se_and (ha : SE g X W a ma) (hb : SE g X W (.BoolOp .And (b :: rest) pos) mb) : SE g X W (.BoolOp .And (a :: b :: rest) pos) (mAnd ma mb) := by
  refine ⟨fun F as ρ μ σ H Q r μ' h sr er post => wE (pe_and pe_wp pe_wp) ?_⟩
  refine ha.then_ h sr er (fun x e => by subst e; exact post) fun s1 μ1 F1 as1 v1 H1 h1 x1 sr1 er1 ra1 => ?_
  cases q : bl? s1 with
  | none => rw [q] at h1; cases h1
  | some k =>
    rw [q] at h1
    rw [bl?_some q] at ra1
    refine ⟨k, ra1, ?_⟩
    cases k with
    | true =>
      rw [if_pos rfl]
      exact hb.run F1 as1 ρ μ1 σ H1 Q r μ' h1 sr1 er1 (by cases r with
        | ok s => exact fun F' as' v H' e' r' q' => post F' as' v H' (x1.trans e') r' q'
        | error x => exact PErr.ext x1 post)
    | false =>
      rw [if_neg Bool.false_ne_true]
      cases h1
      exact post F1 as1 _ H1 x1 sr1 ra_bl
end
def tBl (a : ME) : MT := fun ρ μ => andThen (a ρ μ) fun s μ1 => match bl? s with
  | some b => some (.ok b, μ1)
  | none => none
def tNotM (a : MT) : MT := fun ρ μ => andThen (a ρ μ) fun b μ1 => some (.ok (!b), μ1)
def tAndM (a b : MT) : MT := fun ρ μ => andThen (a ρ μ) fun c μ1 => if c then b ρ μ1 else some (.ok false, μ1)
def tOrM (a b : MT) : MT := fun ρ μ => andThen (a ρ μ) fun c μ1 => if c then some (.ok true, μ1) else b ρ μ1
def mIf (t : MT) (a b : ME) : ME := fun ρ μ => andThen (t ρ μ) fun c μ1 => if c then a ρ μ1 else b ρ μ1
section
variable {g : G} {X : Cx} {W : WX} {a b c : Expr} {rest : List Expr} {ma mb : ME} {ta tb : MT} {pos : Pos}
theorem PostT.ext {F F1 : Hp} {as as1 : List Addr} {σ : L2.St} {Q : Bool → Hp → Prop} {r : Except Ex Bool} {μ : Sto} (e : Ext F as F1 as1) (h : PostT g W F as σ Q r μ) : PostT g W F1 as1 σ Q r μ := by
  cases r with
  | ok b => exact fun F' as' H' e' r' => h F' as' H' (e.trans e') r'
  | error x => exact PErr.ext e h
theorem PostE.ext {F F1 : Hp} {as as1 : List Addr} {σ : L2.St} {Q : VK} {r : Except Ex S} {μ : Sto} (e : Ext F as F1 as1) (h : PostE g W F as σ Q r μ) : PostE g W F1 as1 σ Q r μ := by
  cases r with
  | ok b => exact fun F' as' v H' e' r' q => h F' as' v H' (e.trans e') r' q
  | error x => exact PErr.ext e h
/-- a value that is a truth, as a test -/
theorem tBl_run {F : Hp} {as : List Addr} {ρ : En} {μ : Sto} {σ : L2.St} {H : Hp} {Q : Bool → Hp → Prop} {r : Except Ex Bool} {μ' : Sto} (ha : SE g X W a ma) (h : tBl ma ρ μ = some (r, μ')) (sr : SR g F as μ H) (er : ER g F as ρ σ)
    (post : PostT g W F as σ Q r μ') : wpE X a σ H fun x H1 => ∃ c, x = .bl c ∧ Q c H1 := by
  refine ha.then_ h sr er (fun x e => by subst e; exact post) fun s1 μ1 F1 as1 v1 H1 h1 x1 sr1 er1 ra1 => ?_
  cases q : bl? s1 with
  | none => rw [q] at h1; cases h1
  | some k =>
    rw [q] at h1
    rw [bl?_some q] at ra1
    cases h1
    exact ⟨k, ra1, post F1 as1 H1 x1 sr1⟩
theorem st_val (ha : SE g X W a ma) (he : ∀ whole, isTrue a X.env whole = (do let v ← whole; standAt a.pos; holding [v] (truthy v))) : STe g X W a (tBl ma) :=
  ⟨fun F as ρ μ σ H Q r μ' h sr er post => wT (pt_val pe_wp he) (tBl_run ha h sr er post)⟩
theorem st_cmp {op : CmpOp} {dop : D → D → Option S} (ho : OpOk g X (compareOp op) dop) (ha : SE g X W a ma) (hb : SE g X W b mb) (hm : behindInMarks op b = false) : STe g X W (.Compare a [op] [b] pos) (tBl (mOp2 dop ma mb)) := by
  refine ⟨fun F as ρ μ σ H Q r μ' h sr er post => wT (pt_cmpR op_can pe_wp pe_wp hm) ?_⟩
  show tOp _ _ _ σ H fun x H' => ∃ k, x = .bl k ∧ Q k H'
  rcases andThen_some h with ⟨x, h1, h2⟩ | ⟨s1, μ1, h1, h2⟩
  · dsimp only at h2
    subst h2
    exact two_ok ho ha hb h1 sr er (show PostE g W F as σ _ (.error x) μ' from post)
  · refine two_ok ho ha hb h1 sr er fun F' as' v H' e' r' q => ?_
    cases z : bl? s1 with
    | none => rw [z] at h2; cases h2
    | some k =>
      rw [z] at h2
      rw [bl?_some z] at q
      cases h2
      exact ⟨k, q, post F' as' H' e' r'⟩
theorem st_chain {op op' : CmpOp} {dop dop' : D → D → Option S} {mc : ME} (ho : OpOk g X (compareOp op) dop) (ho' : OpOk g X (compareOp op') dop') (ha : SE g X W a ma) (hb : SE g X W b mb) (hc : SE g X W c mc) (hm : lastMarks [op, op'] [b, c] = false) :
    STe g X W (.Compare a [op, op'] [b, c] pos) (tBl (mChain dop dop' ma mb mc)) := by
  refine ⟨fun F as ρ μ σ H Q r μ' h sr er post => wT (pt_chain op_can op_can pe_wp pe_wp pe_wp hm) ?_⟩
  show tChain _ _ _ _ _ σ H fun x H' => ∃ k, x = .bl k ∧ Q k H'
  rcases andThen_some h with ⟨x, h1, h2⟩ | ⟨s1, μ1, h1, h2⟩
  · dsimp only at h2
    subst h2
    exact chain_ok ho ho' ha hb hc h1 sr er (show PostE g W F as σ _ (.error x) μ' from post)
  · refine chain_ok ho ho' ha hb hc h1 sr er fun F' as' v H' e' r' q => ?_
    cases z : bl? s1 with
    | none => rw [z] at h2; cases h2
    | some k =>
      rw [z] at h2
      rw [bl?_some z] at q
      cases h2
      exact ⟨k, q, post F' as' H' e' r'⟩
theorem st_not (ha : STe g X W a ta) : STe g X W (.UnaryOp .Not a pos) (tNotM ta) := by
  refine ⟨fun F as ρ μ σ H Q r μ' h sr er post => wT (pt_not pt_wp) ?_⟩
  refine ha.then_ h sr er (fun x e => by subst e; exact post) fun b μ1 F1 as1 H1 h1 x1 sr1 er1 => ?_
  cases h1
  exact post F1 as1 H1 x1 sr1
theorem sw_one (op : BoolOp) (ha : STe g X W a ta) : SW g X W (.BoolOp op [a] pos) ta := by
  cases op with
  | And => exact ⟨fun F as ρ μ σ H Q r μ' h sr er post => wW (pw_and1 pt_wp) (ha.run F as ρ μ σ H Q r μ' h sr er post)⟩
  | Or => exact ⟨fun F as ρ μ σ H Q r μ' h sr er post => wW (pw_or1 pt_wp) (ha.run F as ρ μ σ H Q r μ' h sr er post)⟩
theorem sw_and (ha : STe g X W a ta) (hb : SW g X W (.BoolOp .And (b :: rest) pos) tb) : SW g X W (.BoolOp .And (a :: b :: rest) pos) (tAndM ta tb) := by
  refine ⟨fun F as ρ μ σ H Q r μ' h sr er post => wW (pw_and pt_wp pw_wp) ?_⟩
  refine ha.then_ h sr er (fun x e => by subst e; exact post) fun k μ1 F1 as1 H1 h1 x1 sr1 er1 => ?_
  cases k with
  | true => rw [if_pos rfl] at h1 ⊢; exact hb.run F1 as1 ρ μ1 σ H1 Q r μ' h1 sr1 er1 (PostT.ext x1 post)
  | false =>
    rw [if_neg Bool.false_ne_true] at h1 ⊢
    cases h1
    exact post F1 as1 H1 x1 sr1
theorem sw_or (ha : STe g X W a ta) (hb : SW g X W (.BoolOp .Or (b :: rest) pos) tb) : SW g X W (.BoolOp .Or (a :: b :: rest) pos) (tOrM ta tb) := by
  refine ⟨fun F as ρ μ σ H Q r μ' h sr er post => wW (pw_or pt_wp pw_wp) ?_⟩
  refine ha.then_ h sr er (fun x e => by subst e; exact post) fun k μ1 F1 as1 H1 h1 x1 sr1 er1 => ?_
  cases k with
  | false => rw [if_neg Bool.false_ne_true] at h1 ⊢; exact hb.run F1 as1 ρ μ1 σ H1 Q r μ' h1 sr1 er1 (PostT.ext x1 post)
  | true =>
    rw [if_pos rfl] at h1 ⊢
    cases h1
    exact post F1 as1 H1 x1 sr1
theorem st_pw (h : SW g X W a ta) : STe g X W a ta := ⟨fun F as ρ μ σ H Q r μ' e sr er post => wT (pw_wp.pt) (h.run F as ρ μ σ H Q r μ' e sr er post)⟩
theorem se_if (hc : STe g X W c ta) (ha : SE g X W a ma) (hb : SE g X W b mb) : SE g X W (.IfExp c a b pos) (mIf ta ma mb) := by
  refine ⟨fun F as ρ μ σ H Q r μ' h sr er post => wE (pe_ifExp pt_wp pe_wp pe_wp) ?_⟩
  refine hc.then_ h sr er (fun x e => by subst e; exact post) fun k μ1 F1 as1 H1 h1 x1 sr1 er1 => ?_
  cases k with
  | true => rw [if_pos rfl] at h1 ⊢; exact ha.run F1 as1 ρ μ1 σ H1 Q r μ' h1 sr1 er1 (PostE.ext x1 post)
  | false => rw [if_neg Bool.false_ne_true] at h1 ⊢; exact hb.run F1 as1 ρ μ1 σ H1 Q r μ' h1 sr1 er1 (PostE.ext x1 post)
end
end Sz
set_option Elab.async false
set_option linter.all false
set_option maxRecDepth 100000
set_option maxHeartbeats 4000000
namespace Sz
open PySem PySem.Spec L2
mutual
def toPy : D → Option PyData
  | .non => some .none
  | .bl b => some (.bool b)
  | .int i => some (.int i)
  | .str s => some (.str s)
  | .tup ds => match toPys ds with
    | some ps => some (.tuple ps)
    | none => none
  | .lst ds => match toPys ds with
    | some ps => some (.list ps)
    | none => none
  | _ => none
def toPys : List D → Option (List PyData)
  | [] => some []
  | d :: ds => match toPy d, toPys ds with
    | some p, some ps => some (p :: ps)
    | _, _ => none
end
section
variable {g : G} {F H : Hp}
mutual
theorem toPy_rep (e : Same F H) : ∀ {d : D} {v : V} {p : PyData}, toPy d = some p → Rep g F d v → Dp g.K H v p
  | .non, v, p, h, r => by unfold toPy at h; cases h; unfold Rep at r; subst r; exact .non
  | .bl b, v, p, h, r => by unfold toPy at h; cases h; unfold Rep at r; subst r; exact .bl b
  | .int i, v, p, h, r => by unfold toPy at h; cases h; unfold Rep at r; subst r; exact .int i
  | .str s, v, p, h, r => by unfold toPy at h; cases h; unfold Rep at r; subst r; exact .str s
  | .tup ds, v, p, h, r => by
    unfold toPy at h
    cases q : toPys ds with
    | none => rw [q] at h; cases h
    | some ps =>
      rw [q] at h
      cases h
      unfold Rep at r
      obtain ⟨a, vs, rfl, h1, h2⟩ := r
      exact .tup (seqT_mono e h1) (toPys_rep e q h2)
  | .lst ds, v, p, h, r => by
    unfold toPy at h
    cases q : toPys ds with
    | none => rw [q] at h; cases h
    | some ps =>
      rw [q] at h
      cases h
      unfold Rep at r
      obtain ⟨a, vs, rfl, h1, h2⟩ := r
      exact .lst (SqL.of (e _ _ h1)) (toPys_rep e q h2)
  | .ty _, _, _, h, _ => by unfold toPy at h; cases h
  | .obj _ _, _, _, h, _ => by unfold toPy at h; cases h
  | .fn _, _, _, h, _ => by unfold toPy at h; cases h
  | .cls _, _, _, h, _ => by unfold toPy at h; cases h
  | .scr _, _, _, h, _ => by unfold toPy at h; cases h
  | .dic _ _, _, _, h, _ => by unfold toPy at h; cases h
  | .exc _ _, _, _, h, _ => by unfold toPy at h; cases h
theorem toPys_rep (e : Same F H) : ∀ {ds : List D} {vs : List V} {ps : List PyData}, toPys ds = some ps → Reps g F ds vs → DpAll g.K H vs ps
  | [], vs, ps, h, r => by
    unfold toPys at h
    cases h
    rw [Reps.nil_iff.mp r]
    exact .nil
  | d :: ds, vs, ps, h, r => by
    unfold toPys at h
    cases q : toPy d with
    | none => rw [q] at h; simp at h
    | some p =>
      cases q2 : toPys ds with
      | none => rw [q, q2] at h; simp at h
      | some ps' =>
        rw [q, q2] at h
        simp only [Option.some.injEq] at h
        subst h
        obtain ⟨v, r', e1, e2, e3⟩ := Reps.cons_iff.mp r
        subst e1
        exact .cons (toPy_rep e q e2) (toPys_rep e q2 e3)
end
theorem toPy_vr {as : List Addr} {μ : Sto} {d : D} {v : V} {p : PyData} (sr : SR g F as μ H) (h : toPy d = some p) (r : VR g F H d v) : Dp g.K H v p := by
  rcases r with ⟨ds, a, vs, e, e1, e2, e3⟩ | r
  · subst e
    unfold toPy at h
    cases q : toPys ds with
    | none => rw [q] at h; cases h
    | some ps =>
      rw [q] at h
      cases h
      subst e1
      exact .lst (SqL.of e2) (toPys_rep sr.sub q e3)
  · exact toPy_rep sr.sub h r
end
def mulOk (i j : Int) : Bool := !(decide (Builtin.Int.intBits i > shortFactorBits) && decide (Builtin.Int.intBits j > shortFactorBits) && Builtin.Int.intTooBig (Builtin.Int.intBits i + Builtin.Int.intBits j))
theorem mulOk_ok {i j : Int} (h : mulOk i j = true) : IntMulOk i j := by
  unfold mulOk at h
  unfold IntMulOk
  intro z
  rw [z] at h
  cases h
theorem mulOk_of {i j : Int} (h : IntMulOk i j) : mulOk i j = true := by
  unfold IntMulOk at h
  unfold mulOk
  rw [Bool.not_eq_true'] 
  exact Bool.eq_false_iff.mpr h
def dAdd : D → D → Option S
  | .int i, .int j => some (.val (.int (i + j)))
  | .str s, .str t => if s.length + t.length ≤ sizeLine then some (.val (.str (s ++ t))) else none
  | .lst a, .lst b => if a.length + b.length ≤ sizeLine then some (.fr (a ++ b)) else none
  | .tup a, .tup b => if a.length + b.length ≤ sizeLine then some (.val (.tup (a ++ b))) else none
  | _, _ => none
def dSub : D → D → Option S
  | .int i, .int j => some (.val (.int (i - j)))
  | _, _ => none
def dMul : D → D → Option S
  | .int i, .int j => if mulOk i j then some (.val (.int (i * j))) else none
  | .lst a, .int k => if -(2 ^ 63) ≤ k ∧ k < 2 ^ 63 ∧ a.length * k.toNat ≤ sizeLine then some (.fr (List.replicate k.toNat a).flatten) else none
  | _, _ => none
def dFdiv : D → D → Option S
  | .int i, .int j => if j ≠ 0 ∧ j.natAbs.log2 < 9000 then some (.val (.int (i.fdiv j))) else none
  | _, _ => none
def dMod : D → D → Option S
  | .int i, .int j => if j ≠ 0 then some (.val (.int (i.fmod j))) else none
  | _, _ => none
def dPow : D → D → Option S
  | .int i, .int j => if 0 ≤ j ∧ (Builtin.Int.intBits i : Int) * j ≤ 2 ^ 27 then some (.val (.int (i ^ j.toNat))) else none
  | _, _ => none
section
variable {g : G} {X : Cx}
theorem fdiv_rule : OpR X (binaryOp .FloorDiv) (rI (fun _ j => j ≠ 0 ∧ j.natAbs.log2 < 9000) fun i j => .int (i.fdiv j)) := opI fun _ _ _ _ _ _ _ hc q => PyProof.Rows.floordiv_int hc.1 q (.inl (PyProof.noPylong_of_log2 hc.2))
theorem mul_rule : OpR X (binaryOp .Mult) (rI (fun i j => IntMulOk i j) fun i j => .int (i * j)) := opI fun _ _ _ _ _ _ _ hc q => PyProof.Rows.mul_int q hc
theorem pow_rule : OpR X (binaryOp .Pow) (rI (fun i j => 0 ≤ j ∧ (Builtin.Int.intBits i : Int) * j ≤ 2 ^ 27) fun i j => .int (i ^ j.toNat)) := opI fun _ _ _ _ _ _ _ hc q => PyProof.Rows.pow_int hc.1 hc.2 q
theorem ra_lst {F H : Hp} {as : List Addr} {p : Addr} {vs : List V} {ds : List D} (h1 : H p = some (.lst vs)) (h2 : F p = none) (h3 : p ∉ as) (h4 : Reps g F ds vs) : RA g F as H (.fr ds) (.ref p) := ⟨p, vs, rfl, h1, h2, h3, h4⟩
theorem ok_add (hg : g.K = X.K) : OpOk g X (binaryOp .Add) dAdd := by
  intro x y s F as μ H v u Q e sr hx hy k
  unfold dAdd at e
  split at e
  · cases e
    cases vr_int hx
    cases vr_int hy
    exact oc op_add ⟨_, _, rfl, rfl, k F as _ H .refl sr ra_int⟩
  · split at e
    · rename_i hz
      cases e
      cases vr_str hx
      cases vr_str hy
      exact oc op_add_str ⟨_, _, rfl, rfl, hz, k F as _ H .refl sr ra_str⟩
    · cases e
  · split at e
    · rename_i hz
      cases e
      obtain ⟨a, vs, rfl, h1, r1⟩ := vr_lst sr hx
      obtain ⟨b, us, rfl, h2, r2⟩ := vr_lst sr hy
      refine oc op_cat ⟨a, b, vs, us, rfl, rfl, h1, h2, by rw [r1.length, r2.length]; exact hz, fun p hp => ?_⟩
      obtain ⟨sr', f, n⟩ := sr.loose (o := .lst (vs ++ us)) hp
      exact k F as _ _ .refl sr' (ra_lst upd_same f n (r1.append r2))
    · cases e
  · rename_i a b
    split at e
    · rename_i hz
      cases e
      obtain ⟨a', vs, rfl, h1, r1⟩ := vr_tup sr hx
      obtain ⟨b', us, rfl, h2, r2⟩ := vr_tup sr hy
      have rep_of : ∀ {d : List D} {v : V}, VR g F H (.tup d) v → Rep g F (.tup d) v := fun {d v} h => by
        rcases h with ⟨_, _, _, e', _⟩ | h
        · cases e'
        · exact h
      refine oc op_catA ⟨a', b', vs, us, rfl, rfl, hg ▸ h1, hg ▸ h2, by rw [r1.length, r2.length]; exact hz, fun z => ?_, fun _ z => ?_, fun _ _ p hp => ?_⟩
      · have ha : a = [] := by
          have := r1.length
          rw [z] at this
          exact List.eq_nil_of_length_eq_zero this.symm
        subst ha
        exact k F as _ H .refl sr (rep_of hy)
      · have hb : b = [] := by
          have := r2.length
          rw [z] at this
          exact List.eq_nil_of_length_eq_zero this.symm
        subst hb
        refine k F as _ H .refl sr ?_
        show Rep g F _ _
        rw [List.append_nil]
        exact rep_of hx
      · obtain ⟨sr', x', y'⟩ := sr.frozen (o := .tup (vs ++ us)) hp
        refine k _ as _ _ x' sr' ?_
        show Rep g _ (.tup (a ++ b)) _
        unfold Rep
        exact ⟨p, _, rfl, SqT.of y', (r1.append r2).mono x'.1⟩
    · cases e
  · cases e
theorem ok_sub : OpOk g X (binaryOp .Sub) dSub := by
  intro x y s F as μ H v u Q e sr hx hy k
  unfold dSub at e
  split at e
  · cases e
    cases vr_int hx
    cases vr_int hy
    exact oc op_sub ⟨_, _, rfl, rfl, k F as _ H .refl sr ra_int⟩
  · cases e
theorem ok_mul : OpOk g X (binaryOp .Mult) dMul := by
  intro x y s F as μ H v u Q e sr hx hy k
  unfold dMul at e
  split at e
  · split at e
    · rename_i hz
      cases e
      cases vr_int hx
      cases vr_int hy
      exact oc mul_rule ⟨_, _, rfl, rfl, mulOk_ok hz, k F as _ H .refl sr ra_int⟩
    · cases e
  · split at e
    · rename_i hz
      cases e
      obtain ⟨a, vs, rfl, h1, r1⟩ := vr_lst sr hx
      cases vr_int hy
      refine oc op_rep ⟨a, _, vs, rfl, rfl, h1, hz.1, hz.2.1, by rw [r1.length]; exact hz.2.2, fun p hp => ?_⟩
      obtain ⟨sr', f, n⟩ := sr.loose (o := .lst (List.replicate _ vs).flatten) hp
      exact k F as _ _ .refl sr' (ra_lst upd_same f n (r1.rep _))
    · cases e
  · cases e
theorem ok_fdiv : OpOk g X (binaryOp .FloorDiv) dFdiv := by
  intro x y s F as μ H v u Q e sr hx hy k
  unfold dFdiv at e
  split at e
  · split at e
    · rename_i hz
      cases e
      cases vr_int hx
      cases vr_int hy
      exact oc fdiv_rule ⟨_, _, rfl, rfl, hz, k F as _ H .refl sr ra_int⟩
    · cases e
  · cases e
theorem ok_mod : OpOk g X (binaryOp .Mod) dMod := by
  intro x y s F as μ H v u Q e sr hx hy k
  unfold dMod at e
  split at e
  · split at e
    · rename_i hz
      cases e
      cases vr_int hx
      cases vr_int hy
      exact oc op_modN ⟨_, _, rfl, rfl, hz, k F as _ H .refl sr ra_int⟩
    · cases e
  · cases e
theorem ok_pow : OpOk g X (binaryOp .Pow) dPow := by
  intro x y s F as μ H v u Q e sr hx hy k
  unfold dPow at e
  split at e
  · split at e
    · rename_i hz
      cases e
      cases vr_int hx
      cases vr_int hy
      exact oc pow_rule ⟨_, _, rfl, rfl, hz, k F as _ H .refl sr ra_int⟩
    · cases e
  · cases e
end
section
variable {g : G}
def ints? : List D → Option (List Int)
  | [] => some []
  | .int i :: ds => (ints? ds).map (i :: ·)
  | _ => none
theorem ints_reps {F : Hp} : ∀ {ds : List D} {ns : List Int} {vs : List V}, ints? ds = some ns → Reps g F ds vs → vs = ns.map V.int
  | [], ns, vs, h, r => by
    cases h
    exact Reps.nil_iff.mp r
  | d :: ds, ns, vs, h, r => by
    cases d with
    | int i =>
      obtain ⟨ns', h1, rfl⟩ := Option.map_eq_some_iff.mp (show (ints? ds).map (i :: ·) = some ns from h)
      obtain ⟨v, r', rfl, h2, h3⟩ := Reps.cons_iff.mp r
      unfold Rep at h2
      rw [h2, ints_reps h1 h3]
      rfl
    | _ => cases h
/-- plain things -/
def flat? : D → Option V
  | .non => some .non
  | .bl b => some (.bl b)
  | .int i => some (.int i)
  | .str s => some (.str s)
  | _ => none
def flats? : List D → Option (List V)
  | [] => some []
  | d :: ds => match flat? d, flats? ds with
    | some v, some vs => some (v :: vs)
    | _, _ => none
theorem flat_rep {F : Hp} {d : D} {u v : V} (h : flat? d = some u) (r : Rep g F d v) : v = u ∧ flatV u = true := by
  cases d with
  | non => cases h; unfold Rep at r; exact ⟨r, rfl⟩
  | bl b => cases h; unfold Rep at r; exact ⟨r, rfl⟩
  | int i => cases h; unfold Rep at r; exact ⟨r, rfl⟩
  | str s => cases h; unfold Rep at r; exact ⟨r, rfl⟩
  | _ => cases h
theorem flats_reps {F : Hp} : ∀ {ds : List D} {us vs : List V}, flats? ds = some us → Reps g F ds vs → vs = us ∧ us.all flatV = true
  | [], us, vs, h, r => by
    cases h
    exact ⟨Reps.nil_iff.mp r, rfl⟩
  | d :: ds, us, vs, h, r => by
    obtain ⟨v, r', rfl, h2, h3⟩ := Reps.cons_iff.mp r
    unfold flats? at h
    split at h
    · rename_i a as h4 h5
      cases h
      obtain ⟨e1, e2⟩ := flat_rep h4 h2
      obtain ⟨e3, e4⟩ := flats_reps h5 h3
      exact ⟨by rw [e1, e3], by rw [List.all_cons, e2, e4]; rfl⟩
    · cases h
end
def dLt : D → D → Option S
  | .int i, .int j => some (.val (.bl (decide (i < j))))
  | .str s, .str t => some (.val (.bl (decide (s.cps.toList < t.cps.toList))))
  | .tup ds, .tup es => (match ints? ds, ints? es with
    | some ns, some ms => some (.val (.bl (HT.lexLt ns ms)))
    | _, _ => none)
  | _, _ => none
def dLe : D → D → Option S
  | .int i, .int j => some (.val (.bl (decide (i ≤ j))))
  | _, _ => none
def dGt : D → D → Option S
  | .int i, .int j => some (.val (.bl (decide (j < i))))
  | .tup ds, .tup es => (match toPys ds, toPys es with
    | some ps, some qs => if PySem.W.alike (.tuple ps) (.tuple qs) && SeqAt.shaped (.tuple ps) then some (.val (.bl (PySem.W.dataLt (.tuple qs) (.tuple ps)))) else none
    | _, _ => none)
  | _, _ => none
def dGe : D → D → Option S
  | .int i, .int j => some (.val (.bl (decide (j ≤ i))))
  | _, _ => none
def isNon : D → Bool
  | .non => true
  | _ => false
def dIs : D → D → Option S
  | x, .non => some (.val (.bl (isNon x)))
  | _, _ => none
def dIsNot : D → D → Option S
  | x, .non => some (.val (.bl (!isNon x)))
  | _, _ => none
/-- == of data -/
def pyEq (x y : D) : Option Bool := match toPy x, toPy y with
  | some p, some q => if SeqAt.shaped p && SeqAt.shaped q then some (PyData.eqv p q) else none
  | _, _ => none
/-- rows of which no two things are compared -/
def eqEmp : D → D → Option Bool
  | .tup ds, .tup [] => some ds.isEmpty
  | .tup [], .tup es => some es.isEmpty
  | .lst ds, .lst es => if ds.length = es.length then none else some false
  | _, _ => none
def dEq : D → D → Option S
  | .str s, .str t => some (.val (.bl (decide (s = t))))
  | x, y => match pyEq x y with
    | some b => some (.val (.bl b))
    | none => (eqEmp x y).map fun b => .val (.bl b)
def dNe : D → D → Option S
  | .str s, .str t => some (.val (.bl (!decide (s = t))))
  | x, y => match pyEq x y with
    | some b => some (.val (.bl (!b)))
    | none => (eqEmp x y).map fun b => .val (.bl (!b))
/-- in: a text in a text, a thing in a list of data -/
def pyIn : D → D → Option Bool
  | .str i, .str j => some (!(Builtin.Str.occurrences j i 0 j.length 1).isEmpty)
  | x, .lst ds => match toPy x, toPys ds with
    | some p, some ps => if SeqAt.shaped p && SeqAt.shaped (.list ps) then some (ps.any fun z => PyData.eqv z p) else none
    | _, _ => none
  | x, .tup ds => match flat? x, flats? ds with
    | some v, some vs => some (inV v vs)
    | _, _ => none
  | _, _ => none
def dIn (x y : D) : Option S := (pyIn x y).map fun b => .val (.bl b)
def dNotIn (x y : D) : Option S := (pyIn x y).map fun b => .val (.bl (!b))
section
variable {g : G} {X : Cx}
theorem isNon_rep {F : Hp} {d : D} {v : V} (h : Rep g F d v) : decide (v = .non) = isNon d := by
  cases d with
  | non => unfold Rep at h; subst h; rfl
  | tup ds => unfold Rep at h; obtain ⟨a, vs, rfl, _⟩ := h; rfl
  | lst ds => unfold Rep at h; obtain ⟨a, vs, rfl, _⟩ := h; rfl
  | obj c fs => unfold Rep at h; obtain ⟨a, dx, vs, rfl, _⟩ := h; rfl
  | scr ns => unfold Rep at h; obtain ⟨a, rfl, _⟩ := h; rfl
  | dic ks ds => unfold Rep at h; obtain ⟨a, ob, vs, rfl, _⟩ := h; rfl
  | exc c fs => unfold Rep at h; obtain ⟨a, oe, dx, vs, rfl, _⟩ := h; rfl
  | _ => unfold Rep at h; subst h; rfl
theorem isNon_vr {F H : Hp} {d : D} {v : V} (h : VR g F H d v) : decide (v = .non) = isNon d := by
  rcases h with ⟨ds, a, vs, rfl, rfl, _⟩ | h
  · rfl
  · exact isNon_rep h
theorem ok_lt (hg : g.K = X.K) (hu : X.A.units + 64 < cLine) : OpOk g X (compareOp .Lt) dLt := by
  intro x y s F as μ H v u Q e sr hx hy k
  unfold dLt at e
  split at e
  · cases e
    cases vr_int hx
    cases vr_int hy
    exact oc op_lt ⟨_, _, rfl, rfl, k F as _ H .refl sr ra_bl⟩
  · cases e
    cases vr_str hx
    cases vr_str hy
    exact oc op_lt_str ⟨_, _, rfl, rfl, k F as _ H .refl sr ra_bl⟩
  · split at e
    · rename_i ns ms h1 h2
      cases e
      obtain ⟨a, vs, rfl, q1, r1⟩ := vr_tup sr hx
      obtain ⟨b, us, rfl, q2, r2⟩ := vr_tup sr hy
      cases ints_reps h1 r1
      cases ints_reps h2 r2
      exact oc (op_ltT (by omega)) ⟨a, b, ns, ms, rfl, rfl, hg ▸ q1, hg ▸ q2, k F as _ H .refl sr ra_bl⟩
    · cases e
  · cases e
theorem ok_le : OpOk g X (compareOp .LtE) dLe := by
  intro x y s F as μ H v u Q e sr hx hy k
  unfold dLe at e
  split at e
  · cases e
    cases vr_int hx
    cases vr_int hy
    exact oc op_le ⟨_, _, rfl, rfl, k F as _ H .refl sr ra_bl⟩
  · cases e
theorem ok_gt (hg : g.K = X.K) (hu : X.A.units + 64 < cLine) : OpOk g X (compareOp .Gt) dGt := by
  intro x y s F as μ H v u Q e sr hx hy k
  unfold dGt at e
  split at e
  · cases e
    cases vr_int hx
    cases vr_int hy
    exact oc op_gt ⟨_, _, rfl, rfl, k F as _ H .refl sr ra_bl⟩
  · rename_i ds es
    split at e
    · rename_i ps qs h1 h2
      split at e
      · rename_i hz
        cases e
        rw [Bool.and_eq_true] at hz
        have t1 : toPy (.tup ds) = some (.tuple ps) := by unfold toPy; rw [h1]
        have t2 : toPy (.tup es) = some (.tuple qs) := by unfold toPy; rw [h2]
        refine oc (r := fun x y H Q => ∃ d d', Dp X.K H x d ∧ Dp X.K H y d' ∧ PySem.W.alike d d' = true ∧ d ≠ PyData.none ∧ SeqAt.shaped d = true ∧ Q (.bl (PySem.W.dataLt d' d)) H) (fun pins s σ H x y v u Q I rx ry h => ?_) ⟨.tuple ps, .tuple qs, hg ▸ toPy_vr sr t1 hx, hg ▸ toPy_vr sr t2 hy, hz.1, (fun z => by cases z), hz.2, k F as _ H .refl sr ra_bl⟩
        obtain ⟨d, d', hd, he, al, nn, sd, q⟩ := h
        obtain ⟨as, r1⟩ := Dp.reads I d x v hd rx
        obtain ⟨bs, r2⟩ := Dp.reads I d' y u he ry
        exact PySem.W.gt_data r1 r2 al nn (SeqAt.room_of_shaped sd hu) ⟨.bl _, H, I, rfl, q⟩
      · cases e
    · cases e
  · cases e
theorem ok_ge : OpOk g X (compareOp .GtE) dGe := by
  intro x y s F as μ H v u Q e sr hx hy k
  unfold dGe at e
  split at e
  · cases e
    cases vr_int hx
    cases vr_int hy
    exact oc op_ge ⟨_, _, rfl, rfl, k F as _ H .refl sr ra_bl⟩
  · cases e
theorem ok_is : OpOk g X (compareOp .Is) dIs := by
  intro x y s F as μ H v u Q e sr hx hy k
  unfold dIs at e
  split at e
  · cases e
    cases vr_non hy
    refine oc op_isN ⟨rfl, ?_⟩
    rw [isNon_vr hx]
    exact k F as _ H .refl sr ra_bl
  · cases e
theorem ok_isnot : OpOk g X (compareOp .IsNot) dIsNot := by
  intro x y s F as μ H v u Q e sr hx hy k
  unfold dIsNot at e
  split at e
  · cases e
    cases vr_non hy
    refine oc op_notN ⟨rfl, ?_⟩
    rw [isNon_vr hx]
    exact k F as _ H .refl sr ra_bl
  · cases e
theorem pyEq_some {x y : D} {b : Bool} (h : pyEq x y = some b) : ∃ p q, toPy x = some p ∧ toPy y = some q ∧ SeqAt.shaped p = true ∧ SeqAt.shaped q = true ∧ PyData.eqv p q = b := by
  unfold pyEq at h
  split at h
  · rename_i p q h1 h2
    split at h
    · rename_i hz
      cases h
      rw [Bool.and_eq_true] at hz
      exact ⟨p, q, h1, h2, hz.1, hz.2, rfl⟩
    · cases h
  · cases h
theorem op_emp {X : Cx} {neg : Bool} (hu : X.A.units < cLine) : OpR X (compareOp (if neg = true then .NotEq else .Eq)) (fun x y H Q => ∃ a b, x = .ref a ∧ y = .ref b ∧ ((∃ xs ys, SqT X.K H a xs ∧ SqT X.K H b ys ∧ (xs = [] ∨ ys = []) ∧ Q (.bl (neg != decide (xs.length = ys.length))) H) ∨ ∃ xs ys, SqL X.K H a xs ∧ SqL X.K H b ys ∧ xs.length ≠ ys.length ∧ Q (.bl neg) H)) := by
  intro pins s σ H x y v u Q I rx ry h
  obtain ⟨a, b, rfl, rfl, h⟩ := h
  cases rx
  cases ry
  rcases h with ⟨xs, ys, qx, qy, hz, q⟩ | ⟨xs, ys, qx, qy, hz, q⟩
  · obtain ⟨its, r1, p1, _⟩ := I.tuple qx
    obtain ⟨jts, r2, p2, _⟩ := I.tuple qy
    have l1 := r1.length
    have l2 := r2.length
    have m0 : min its.toArray.size jts.toArray.size = 0 := by
      rw [List.size_toArray, List.size_toArray, ← l1, ← l2]
      rcases hz with rfl | rfl
      · simp
      · simp
    have em : ∀ j, j < its.toArray.size → j < jts.toArray.size → False := fun j j1 j2 => by omega
    have sz : (its.toArray.size == jts.toArray.size) = decide (xs.length = ys.length) := by
      rw [List.size_toArray, List.size_toArray, ← l1, ← l2]
      rfl
    cases neg
    · refine SeqAt.RcAt.tuples (e := fun _ => true) p1 p2 hu (fun j j1 j2 => (em j j1 j2).elim) X.prog X.w X.xe _ ?_
      rw [m0, sz]
      exact ⟨.bl _, H, I, rfl, by simpa using q⟩
    · refine SeqAt.RcNeAt.tuples (e := fun _ => true) p1 p2 hu (fun j j1 j2 => (em j j1 j2).elim) X.prog X.w X.xe _ ?_
      rw [m0, sz]
      exact ⟨.bl _, H, I, rfl, by simpa using q⟩
  · obtain ⟨its, r1, p1, _⟩ := I.list qx
    obtain ⟨jts, r2, p2, _⟩ := I.list qy
    have l1 := r1.length
    have l2 := r2.length
    have sz : (its.toArray.size != jts.toArray.size) = true := by
      rw [List.size_toArray, List.size_toArray, ← l1, ← l2]
      simpa using hz
    cases neg
    · exact SeqAt.RcAt.lists_lengths p1.isList p2.isList sz hu X.prog X.w X.xe _ ⟨.bl _, H, I, rfl, q⟩
    · exact SeqAt.RcNeAt.lists_lengths p1.isList p2.isList sz hu X.prog X.w X.xe _ ⟨.bl _, H, I, rfl, q⟩
theorem emp_run {neg : Bool} {x y : D} {b : Bool} {F : Hp} {as : List Addr} {μ : Sto} {H : Hp} {v u : V} {Q : VK} (hg : g.K = X.K) (hu : X.A.units < cLine) (e : eqEmp x y = some b) (sr : SR g F as μ H) (hx : VR g F H x v) (hy : VR g F H y u) (q : Q (.bl (neg != b)) H) : rcan X (compareOp (if neg = true then .NotEq else .Eq)) v u H Q := by
  unfold eqEmp at e
  split at e
  · cases e
    obtain ⟨a, vs, rfl, q1, r1⟩ := vr_tup sr hx
    obtain ⟨c, us, rfl, q2, r2⟩ := vr_tup sr hy
    cases Reps.nil_iff.mp r2
    refine oc (op_emp hu) ⟨a, c, rfl, rfl, .inl ⟨vs, [], hg ▸ q1, hg ▸ q2, .inr rfl, ?_⟩⟩
    rename_i ds
    have : ds.isEmpty = decide (vs.length = ([] : List V).length) := by
      rw [r1.length]
      cases ds <;> simp
    rw [← this]
    exact q
  · cases e
    obtain ⟨a, vs, rfl, q1, r1⟩ := vr_tup sr hx
    obtain ⟨c, us, rfl, q2, r2⟩ := vr_tup sr hy
    cases Reps.nil_iff.mp r1
    refine oc (op_emp hu) ⟨a, c, rfl, rfl, .inl ⟨[], us, hg ▸ q1, hg ▸ q2, .inl rfl, ?_⟩⟩
    rename_i es _
    have : es.isEmpty = decide (([] : List V).length = us.length) := by
      rw [r2.length]
      cases es <;> simp
    rw [← this]
    exact q
  · split at e
    · cases e
    · rename_i hz
      cases e
      obtain ⟨a, vs, rfl, q1, r1⟩ := vr_lst sr hx
      obtain ⟨c, us, rfl, q2, r2⟩ := vr_lst sr hy
      refine oc (op_emp hu) ⟨a, c, rfl, rfl, .inr ⟨vs, us, hg ▸ SqL.of q1, hg ▸ SqL.of q2, by rw [r1.length, r2.length]; exact hz, ?_⟩⟩
      simpa using q
  · cases e
theorem ok_eq (hg : g.K = X.K) (hu : X.A.units + 64 < cLine) : OpOk g X (compareOp .Eq) dEq := by
  intro x y s F as μ H v u Q e sr hx hy k
  unfold dEq at e
  split at e
  · rename_i s' t'
    cases e
    cases vr_str hx
    cases vr_str hy
    refine oc op_eq ⟨rfl, ?_⟩
    have q : decide (V.str s' = V.str t') = decide (s' = t') := by
      rw [decide_eq_decide]
      exact ⟨fun z => by injection z, fun z => by rw [z]⟩
    rw [q]
    exact k F as _ H .refl sr ra_bl
  split at e
  · rename_i b h
    cases e
    obtain ⟨p, q, h1, h2, h3, h4, rfl⟩ := pyEq_some h
    exact oc (op_eqD hu) ⟨p, q, hg ▸ toPy_vr sr h1 hx, hg ▸ toPy_vr sr h2 hy, h3, h4, k F as _ H .refl sr ra_bl⟩
  · obtain ⟨b, h, rfl⟩ := Option.map_eq_some_iff.mp e
    refine emp_run (neg := false) hg (by omega) h sr hx hy ?_
    have : (false != b) = b := by cases b <;> rfl
    rw [this]
    exact k F as _ H .refl sr ra_bl
theorem ok_ne (hg : g.K = X.K) (hu : X.A.units + 64 < cLine) : OpOk g X (compareOp .NotEq) dNe := by
  intro x y s F as μ H v u Q e sr hx hy k
  unfold dNe at e
  split at e
  · rename_i s' t'
    cases e
    cases vr_str hx
    cases vr_str hy
    refine oc op_ne ⟨rfl, ?_⟩
    have q : decide (V.str s' = V.str t') = decide (s' = t') := by
      rw [decide_eq_decide]
      exact ⟨fun z => by injection z, fun z => by rw [z]⟩
    rw [q]
    exact k F as _ H .refl sr ra_bl
  split at e
  · rename_i b h
    cases e
    obtain ⟨p, q, h1, h2, h3, h4, rfl⟩ := pyEq_some h
    exact oc (op_neD hu) ⟨p, q, hg ▸ toPy_vr sr h1 hx, hg ▸ toPy_vr sr h2 hy, h3, h4, k F as _ H .refl sr ra_bl⟩
  · obtain ⟨b, h, rfl⟩ := Option.map_eq_some_iff.mp e
    refine emp_run (neg := true) hg (by omega) h sr hx hy ?_
    have : (true != b) = !b := by cases b <;> rfl
    rw [this]
    exact k F as _ H .refl sr ra_bl
theorem flat_vr {F H : Hp} {d : D} {u v : V} (h : flat? d = some u) (r : VR g F H d v) : v = u ∧ flatV u = true := by
  rcases r with ⟨ds, a, vs, rfl, _⟩ | r
  · cases h
  · exact flat_rep h r
theorem ok_in (hg : g.K = X.K) (hu : X.A.units + 65 < cLine) : OpOk g X (compareOp .In) dIn := by
  intro x y s F as μ H v u Q e sr hx hy k
  obtain ⟨b, h, rfl⟩ := Option.map_eq_some_iff.mp e
  unfold pyIn at h
  split at h
  · cases h
    cases vr_str hx
    cases vr_str hy
    exact oc op_in_str ⟨_, _, rfl, rfl, k F as _ H .refl sr ra_bl⟩
  · rename_i ds
    split at h
    · rename_i p ps h1 h2
      split at h
      · rename_i hz
        cases h
        rw [Bool.and_eq_true] at hz
        have h3 : toPy (.lst ds) = some (.list ps) := by unfold toPy; rw [h2]
        exact oc (op_inD hu) ⟨p, ps, hg ▸ toPy_vr sr h1 hx, hg ▸ toPy_vr sr h3 hy, hz.1, hz.2, k F as _ H .refl sr ra_bl⟩
      · cases h
    · cases h
  · rename_i ds
    split at h
    · rename_i p ps h1 h2
      cases h
      obtain ⟨a, vs, rfl, q1, r1⟩ := vr_tup sr hy
      obtain ⟨e1, e2⟩ := flats_reps h2 r1
      obtain ⟨e3, e4⟩ := flat_vr h1 hx
      subst e1 e3
      exact oc op_in_seq ⟨a, vs, rfl, .inr (hg ▸ q1), e4, e2, k F as _ H .refl sr ra_bl⟩
    · cases h
  · cases h
theorem ok_notin (hg : g.K = X.K) (hu : X.A.units + 65 < cLine) : OpOk g X (compareOp .NotIn) dNotIn := by
  intro x y s F as μ H v u Q e sr hx hy k
  obtain ⟨b, h, rfl⟩ := Option.map_eq_some_iff.mp e
  unfold pyIn at h
  split at h
  · cases h
    cases vr_str hx
    cases vr_str hy
    exact oc L2.op_notin_str ⟨_, _, rfl, rfl, k F as _ H .refl sr ra_bl⟩
  · rename_i ds
    split at h
    · rename_i p ps h1 h2
      split at h
      · rename_i hz
        cases h
        rw [Bool.and_eq_true] at hz
        have h3 : toPy (.lst ds) = some (.list ps) := by unfold toPy; rw [h2]
        exact oc (op_notInD hu) ⟨p, ps, hg ▸ toPy_vr sr h1 hx, hg ▸ toPy_vr sr h3 hy, hz.1, hz.2, k F as _ H .refl sr ra_bl⟩
      · cases h
    · cases h
  · rename_i ds
    split at h
    · rename_i p ps h1 h2
      cases h
      obtain ⟨a, vs, rfl, q1, r1⟩ := vr_tup sr hy
      obtain ⟨e1, e2⟩ := flats_reps h2 r1
      obtain ⟨e3, e4⟩ := flat_vr h1 hx
      subst e1 e3
      exact oc op_notIn_seq ⟨a, vs, rfl, .inr (hg ▸ q1), e4, e2, k F as _ H .refl sr ra_bl⟩
    · cases h
  · cases h
end
end Sz
set_option Elab.async false
set_option linter.all false
set_option maxRecDepth 100000
set_option maxHeartbeats 4000000
namespace Sz
open PySem PySem.Spec L2
def notStar : Expr → Bool
  | .Starred _ _ => false
  | _ => true
theorem starEach_cons {e : Expr} {es : List Expr} {env : PySem.Env} (h : notStar e = true) : starEach (e :: es) env = (false, eval e env) :: starEach es env := by
  cases e <;> first | rfl | (exact absurd (show false = true from h) Bool.false_ne_true)
theorem starEach_plain : ∀ {es : List Expr} {env : PySem.Env} {pos : Pos}, es.all notStar = true → (backTo pos (starEach es env)).any (·.1) = false
  | [], _, _, _ => rfl
  | e :: es, env, pos, h => by
    rw [List.all_cons, Bool.and_eq_true] at h
    rw [starEach_cons h.1]
    show (false || (backTo pos (starEach es env)).any (·.1)) = false
    rw [starEach_plain h.2]; rfl
def mArgs : List ME → MA
  | [] => fun _ μ => some (.ok [], μ)
  | m :: ms => fun ρ μ => andThen (m ρ μ) fun s μ1 => andThen (mArgs ms ρ μ1) fun ss μ2 => some (.ok (rt s :: ss), μ2)
section
variable {g : G} {X : Cx} {W : WX} {e : Expr} {es : List Expr} {m : ME} {ms : List ME} {pos : Pos}
theorem sa_nil : SA g X W [] (mArgs []) := by
  refine ⟨fun F as ρ μ σ H Q r μ' h sr er post => wA pa_nil ?_⟩
  cases h
  exact post F as [] H .refl sr .nil
theorem sa_cons (hn : notStar e = true) (h1 : SE g X W e m) (h2 : SA g X W es (mArgs ms)) : SA g X W (e :: es) (mArgs (m :: ms)) := by
  refine ⟨fun F as ρ μ σ H Q r μ' h sr er post => wA (pa_cons pe_wp pa_wp (starEach_cons hn)) ?_⟩
  refine h1.then_ (show andThen _ _ = some (r, μ') from h) sr er (fun x e => by subst e; exact post) fun s1 μ1 F1 as1 v1 H1 h3 x1 sr1 er1 ra1 => ?_
  obtain ⟨F1', x1', sr1', rs1⟩ := root_ok sr1 ra1
  refine h2.then_ h3 sr1' (er1.mono x1') (fun x e => by subst e; exact PErr.ext (x1.trans x1') post) fun ss μ2 F2 as2 vs H2 h4 x2 sr2 er2 rs2 => ?_
  cases h4
  exact post F2 as2 _ H2 ((x1.trans x1').trans x2) sr2 (.cons (rs1.mono x2) rs2)
end
def finL (ss : List S) (μ : Sto) : Option R := match toDs μ ss with
  | some (ds, μ2) => if ds.length ≤ sizeLine then some (.ok (.fr ds), μ2) else none
  | none => none
def finT (ss : List S) (μ : Sto) : Option R := match toDs μ ss with
  | some (ds, μ2) => if ds.length ≤ sizeLine then some (.ok (.val (.tup ds)), μ2) else none
  | none => none
def mList (ms : List ME) : ME := fun ρ μ => andThen (mArgs ms ρ μ) finL
def mTup (ms : List ME) : ME := fun ρ μ => andThen (mArgs ms ρ μ) finT
section
variable {g : G} {X : Cx} {W : WX} {e : Expr} {es : List Expr} {m : ME} {ms : List ME} {pos : Pos}
theorem se_lst (ha : SA g X W es (mArgs ms)) : SE g X W (.List es pos) (mList ms) := by
  refine ⟨fun F as ρ μ σ H Q r μ' h sr er post => wE (pe_lst pa_wp) ?_⟩
  refine ha.then_ (show andThen _ _ = some (r, μ') from h) sr er (fun x e => by subst e; exact post) fun ss μ1 F1 as1 vs H1 h1 x1 sr1 er1 rs1 => ?_
  unfold finL at h1
  split at h1
  · rename_i ds μ2 hd
    split at h1
    · rename_i hz
      cases h1
      obtain ⟨F2, x2, sr2, r2⟩ := toDs_rs sr1 rs1 hd
      refine ⟨by rw [r2.length]; exact hz, fun p hp => ?_⟩
      obtain ⟨sr3, f, n⟩ := sr2.loose (o := .lst vs) hp
      exact post F2 as1 _ _ (x1.trans x2) sr3 (ra_lst upd_same f n r2)
    · cases h1
  · cases h1
theorem se_tup {k : Nat} (ha : SA g X W es (mArgs ms)) : SE g X W (.Tuple es k pos) (mTup ms) := by
  refine ⟨fun F as ρ μ σ H Q r μ' h sr er post => wE (pe_tup pa_wp) ?_⟩
  refine ha.then_ (show andThen _ _ = some (r, μ') from h) sr er (fun x e => by subst e; exact post) fun ss μ1 F1 as1 vs H1 h1 x1 sr1 er1 rs1 => ?_
  unfold finT at h1
  split at h1
  · rename_i ds μ2 hd
    split at h1
    · rename_i hz
      cases h1
      obtain ⟨F2, x2, sr2, r2⟩ := toDs_rs sr1 rs1 hd
      refine ⟨by rw [r2.length]; exact hz, fun p hp => ?_⟩
      obtain ⟨sr3, x3, y3⟩ := sr2.frozen (o := .tup vs) hp
      refine post _ as1 _ _ ((x1.trans x2).trans x3) sr3 ?_
      show Rep g _ (.tup ds) _
      unfold Rep
      exact ⟨p, vs, rfl, SqT.of y3, r2.mono x3.1⟩
    · cases h1
  · cases h1
end
def CallOk (g : G) (X : Cx) (f : Value) (op : List D → Option S) : Prop :=
  ∀ (xs : List D) (s : S) (F : Hp) (as : List Addr) (μ : Sto) (H : Hp) (vs : List V) (Q : VK), op xs = some s → SR g F as μ H → VRs g F H xs vs →
    (∀ F' as' w H', Ext F as F' as' → SR g F' as' μ H' → RA g F' as' H' s w → Q w H') → ∀ (pins : List (Addr × Obj)) (st : Shared) (σ : L2.St) (us : List Value), Inv X pins σ H st → Vals vs us → wpAny (model X.prog X.w) X.A (call f us) (EP X pins σ Q) X.xe st
def finB (op : List D → Option S) (ss : List S) (μ : Sto) : Option R := match vws μ ss with
  | some xs => (match op xs with
    | some s => some (.ok s, μ)
    | none => none)
  | none => none
def mCallB (op : List D → Option S) (ms : List ME) : ME := fun ρ μ => andThen (mArgs ms ρ μ) (finB op)
theorem finB_some {op : List D → Option S} {ss : List S} {μ μ' : Sto} {r : Except Ex S} (h : finB op ss μ = some (r, μ')) : ∃ xs s, vws μ ss = some xs ∧ op xs = some s ∧ r = .ok s ∧ μ' = μ := by
  unfold finB at h
  split at h
  · rename_i xs h1
    split at h
    · rename_i s h2
      cases h
      exact ⟨xs, s, h1, h2, rfl, rfl⟩
    · cases h
  · cases h
section
variable {g : G} {X : Cx} {W : WX} {e : Expr} {es : List Expr} {ms : List ME} {pos p : Pos} {x : Str} {op : List D → Option S} {id T : String}
abbrev ccan (X : Cx) (f : Value) : List V → Hp → VK → Prop := fun vs H Q => ∀ (pins : List (Addr × Obj)) (st : Shared) (σ : L2.St) (us : List Value), Inv X pins σ H st → Vals vs us → wpAny (model X.prog X.w) X.A (call f us) (EP X pins σ Q) X.xe st
theorem call_can {f : Value} : CallR X f (ccan X f) := fun pins s σ H xs us Q I r h => h pins s σ us I r
theorem cc {f : Value} {r : List V → Hp → VK → Prop} (h : CallR X f r) {vs : List V} {H : Hp} {Q : VK} (q : r vs H Q) : ccan X f vs H Q := fun pins s σ us I rr => h pins s σ H vs us Q I rr q
theorem callB_ok {f : Value} (ho : CallOk g X f op) (ha : SA g X W es (mArgs ms)) {F : Hp} {as : List Addr} {ρ : En} {μ : Sto} {σ : L2.St} {H : Hp} {Q : VK} {r : Except Ex S} {μ' : Sto}
    (h : mCallB op ms ρ μ = some (r, μ')) (sr : SR g F as μ H) (er : ER g F as ρ σ) (post : PostE g W F as σ Q r μ') : tCB (ccan X f) (wpA X es) σ H Q := by
  refine ha.then_ (show andThen _ _ = some (r, μ') from h) sr er (fun x e => by subst e; exact post) fun ss μ1 F1 as1 vs H1 h1 x1 sr1 er1 rs1 => ?_
  obtain ⟨xs, s, e1, e2, e3, e4⟩ := finB_some h1
  subst e3 e4
  exact ho xs s F1 as1 μ' H1 vs Q e2 sr1 (views_rs sr1 rs1 e1) fun F' as' w H' e' r' q => post F' as' w H' (x1.trans e') r' q
theorem se_callB (ho : CallOk g X (.builtin id) op) (hg : Gl X x) (hm : X.mg x = none) (hv : bootBuiltins x = some (.builtin id)) (hn : x ≠ "__name__") (hdb : (x == ("__debug__" : Str)) = false) (hst : (e :: es).all notStar = true)
    (ha : SA g X W (e :: es) (mArgs ms)) : SE g X W (.Call (.Name x p) (e :: es) [] pos) (mCallB op ms) := by
  rw [List.all_cons, Bool.and_eq_true] at hst
  exact ⟨fun F as ρ μ σ H Q r μ' h sr er post => wE (pe_callB call_can hg hm hv pa_wp hn hdb (starEach_cons hst.1) (starEach_plain hst.2)) (callB_ok ho ha h sr er post)⟩
theorem se_callTy (ho : CallOk g X (.type T) op) (hg : Gl X x) (hm : X.mg x = none) (hv : bootBuiltins x = some (.type T)) (hn : x ≠ "__name__") (hdb : (x == ("__debug__" : Str)) = false) (hst : (e :: es).all notStar = true)
    (ha : SA g X W (e :: es) (mArgs ms)) : SE g X W (.Call (.Name x p) (e :: es) [] pos) (mCallB op ms) := by
  rw [List.all_cons, Bool.and_eq_true] at hst
  exact ⟨fun F as ρ μ σ H Q r μ' h sr er post => wE (pe_callTy call_can hg hm hv pa_wp hn hdb (starEach_cons hst.1) (starEach_plain hst.2)) (callB_ok ho ha h sr er post)⟩
theorem vrs1 {F H : Hp} {d : D} {vs : List V} (h : VRs g F H [d] vs) : ∃ v, vs = [v] ∧ VR g F H d v := by
  cases h with
  | cons h t => cases t; exact ⟨_, rfl, h⟩
theorem vrs2 {F H : Hp} {d d' : D} {vs : List V} (h : VRs g F H [d, d'] vs) : ∃ v u, vs = [v, u] ∧ VR g F H d v ∧ VR g F H d' u := by
  cases h with
  | cons h t => cases t with
    | cons h' t => cases t; exact ⟨_, _, rfl, h, h'⟩
end
def bLen : List D → Option S
  | [.str x] => if x.length ≤ sizeLine then some (.val (.int x.length)) else none
  | [.lst ds] => some (.val (.int ds.length))
  | [.tup ds] => some (.val (.int ds.length))
  | [.scr ns] => some (.val (.int ns.length))
  | _ => none
def bAbs : List D → Option S
  | [.int i] => some (.val (.int (if i < 0 then -i else i)))
  | _ => none
def bMin : List D → Option S
  | [.int i, .int j] => some (.val (.int (if j < i then j else i)))
  | _ => none
def bInt : List D → Option S
  | [.int i] => some (.val (.int i))
  | [.bl b] => some (.val (.int (if b then 1 else 0)))
  | [.str x] => match PySem.intText? x with
    | some n => if x.length ≤ 640 then some (.val (.int n)) else none
    | none => none
  | _ => none
def bStr : List D → Option S
  | [.int i] => if i.natAbs.log2 < 1920 then some (.val (.str (toString i))) else none
  | _ => none
def bls? : List D → Option (List Bool)
  | [] => some []
  | .bl b :: ds => (bls? ds).map (b :: ·)
  | _ => none
def bAll : List D → Option S
  | [.lst ds] => (bls? ds).map fun bs => .val (.bl (bs.all id))
  | _ => none
section
variable {g : G} {X : Cx}
theorem bls_rep {F : Hp} : ∀ {ds : List D} {bs : List Bool} {vs : List V}, bls? ds = some bs → Reps g F ds vs → vs = bs.map V.bl
  | [], bs, vs, h, r => by
    unfold bls? at h
    cases h
    exact Reps.nil_iff.mp r
  | d :: ds, bs, vs, h, r => by
    cases d with
    | bl b =>
      unfold bls? at h
      obtain ⟨bs', h1, rfl⟩ := Option.map_eq_some_iff.mp h
      obtain ⟨v, r', rfl, h2, h3⟩ := Reps.cons_iff.mp r
      unfold Rep at h2
      rw [h2, bls_rep h1 h3]
      rfl
    | _ => unfold bls? at h; cases h
theorem ints_rep {F : Hp} : ∀ {ns : List Int}, Reps g F (ns.map D.int) (ns.map V.int)
  | [] => Reps.nil
  | n :: ns => Reps.cons (by unfold Rep; rfl) ints_rep
theorem co_len (hg : g.K = X.K) : CallOk g X (.builtin "len") bLen := by
  intro xs s F as μ H vs Q e sr hx k
  unfold bLen at e
  split at e
  · obtain ⟨v, rfl, h⟩ := vrs1 hx
    cases vr_str h
    split at e
    · rename_i hz
      cases e
      exact cc call_len ⟨_, _, rfl, ⟨hz, rfl⟩, k F as _ H .refl sr ra_int⟩
    · cases e
  · cases e
    obtain ⟨v, rfl, h⟩ := vrs1 hx
    obtain ⟨a, us, rfl, h1, h2⟩ := vr_lst sr h
    refine cc call_len ⟨_, us.length, rfl, .inl ⟨us, SqL.of h1, rfl⟩, ?_⟩
    rw [h2.length]
    exact k F as _ H .refl sr ra_int
  · cases e
    obtain ⟨v, rfl, h⟩ := vrs1 hx
    obtain ⟨a, us, rfl, h1, h2⟩ := vr_tup sr h
    refine cc call_len ⟨_, us.length, rfl, .inr ⟨us, hg ▸ h1, rfl⟩, ?_⟩
    rw [h2.length]
    exact k F as _ H .refl sr ra_int
  · cases e
    obtain ⟨v, rfl, h⟩ := vrs1 hx
    obtain ⟨a, rfl, h1⟩ := vr_scr sr h
    refine cc call_len ⟨_, _, rfl, .inl ⟨_, hg ▸ h1, rfl⟩, ?_⟩
    rw [List.length_map]
    exact k F as _ H .refl sr ra_int
  · cases e
theorem co_abs : CallOk g X (.builtin "abs") bAbs := by
  intro xs s F as μ H vs Q e sr hx k
  unfold bAbs at e
  split at e
  · cases e
    obtain ⟨v, rfl, h⟩ := vrs1 hx
    cases vr_int h
    exact cc call_abs ⟨_, rfl, k F as _ H .refl sr ra_int⟩
  · cases e
theorem co_min (hc : X.calm = true) : CallOk g X (.builtin "min") bMin := by
  intro xs s F as μ H vs Q e sr hx k
  unfold bMin at e
  split at e
  · cases e
    obtain ⟨v, u, rfl, h, h'⟩ := vrs2 hx
    cases vr_int h
    cases vr_int h'
    exact cc (call_min2 hc) ⟨_, _, rfl, k F as _ H .refl sr ra_int⟩
  · cases e
theorem co_int : CallOk g X (.type "int") bInt := by
  intro xs s F as μ H vs Q e sr hx k
  unfold bInt at e
  split at e
  · cases e
    obtain ⟨v, rfl, h⟩ := vrs1 hx
    cases vr_int h
    exact cc call_int1 (.inl ⟨_, rfl, k F as _ H .refl sr ra_int⟩)
  · cases e
    obtain ⟨v, rfl, h⟩ := vrs1 hx
    cases vr_bl h
    exact cc call_int1 (.inr ⟨_, rfl, k F as _ H .refl sr ra_int⟩)
  · obtain ⟨v, rfl, h⟩ := vrs1 hx
    cases vr_str h
    split at e
    · rename_i n hn
      split at e
      · rename_i hz
        cases e
        exact cc call_int_str ⟨_, _, rfl, hn, hz, k F as _ H .refl sr ra_int⟩
      · cases e
    · cases e
  · cases e
theorem co_str : CallOk g X (.type "str") bStr := by
  intro xs s F as μ H vs Q e sr hx k
  unfold bStr at e
  split at e
  · split at e
    · rename_i hz
      cases e
      obtain ⟨v, rfl, h⟩ := vrs1 hx
      cases vr_int h
      exact cc call_str_int ⟨_, rfl, hz, k F as _ H .refl sr ra_str⟩
    · cases e
  · cases e
theorem co_all (hc : X.calm = true) : CallOk g X (.builtin "all") bAll := by
  intro xs s F as μ H vs Q e sr hx k
  unfold bAll at e
  split at e
  · obtain ⟨bs, hb, rfl⟩ := Option.map_eq_some_iff.mp e
    obtain ⟨v, rfl, h⟩ := vrs1 hx
    obtain ⟨a, us, rfl, h1, h2⟩ := vr_lst sr h
    rw [bls_rep hb h2] at h1
    exact cc (cr_all hc) ⟨_, _, rfl, SqL.of h1, k F as _ H .refl sr ra_bl⟩
  · cases e
end
/-- of two built-in types -/
def tyIs (a b : String) : Option Bool :=
  if tyNames.contains a && ["bool", "int", "str", "list", "tuple", "dict"].contains b then some (a == b || (a == "bool" && b == "int")) else none
theorem tyIs_kit {K : PySem.W.Frag} {a b : String} {r : Bool} (h : tyIs a b = some r) : PySem.W.kitOne K (.type a) (.type b) = some r := by
  refine kit_ty ?_
  unfold tyIs at h
  split at h
  · rename_i hz
    rw [Bool.and_eq_true] at hz
    have h1 := hz.1
    have h2 := hz.2
    simp only [tyNames, List.contains_cons, List.contains_nil, Bool.or_false, Bool.or_eq_true, beq_iff_eq] at h1 h2
    rcases h1 with rfl | rfl | rfl | rfl | rfl | rfl | rfl <;> rcases h2 with rfl | rfl | rfl | rfl | rfl | rfl <;> (cases h; decide +kernel)
  · cases h
/-- what the head must tell of the classes: n plain ones, m in all -/
structure KitF (g : G) (n m : Nat) (sub : Nat → Nat → Bool) : Prop where
  cls : ∀ c, c < n → Cls g.K (g.cad c)
  ha : ∀ c, c < n → PySem.W.findIn g.K (.ref (g.cad c)) "__class__" = some (some (.builtin "object.__class__"))
  hn : 0 < n → PySem.W.specialIn g.K (.builtin "object.__class__") "__get__" = some (some (.builtin "getset_descriptor.__get__"))
  htk : 0 < n → PySem.W.takesIn g.K (.builtin "object.__class__") = some true
  hm : ∀ c, c < n → PySem.W.mroIn g.K (g.cad c) (.type "object") = some true
  ty : ∀ c T, c < m → tyNames.contains T = true → PySem.W.kitOne g.K (.type T) (.ref (g.cad c)) = some false
  own : ∀ c c', c < n → c' < m → PySem.W.kitOne g.K (.ref (g.cad c)) (.ref (g.cad c')) = some (sub c c')
  bl : ∀ c T, c < n → ["bool", "int", "str", "list", "tuple", "dict"].contains T = true → PySem.W.kitOne g.K (.ref (g.cad c)) (.type T) = some false
def dTy : D → Option String
  | .non => some "NoneType"
  | .bl _ => some "bool"
  | .int _ => some "int"
  | .str _ => some "str"
  | .tup _ => some "tuple"
  | .lst _ => some "list"
  | .scr _ => some "list"
  | .dic _ _ => some "dict"
  | _ => none
def isOne (n m : Nat) (sub : Nat → Nat → Bool) (x c : D) : Option Bool := match x, c with
  | .obj i _, .cls j => if i < n ∧ j < m then some (sub i j) else none
  | .obj i _, .ty T => if i < n ∧ ["bool", "int", "str", "list", "tuple", "dict"].contains T = true then some false else none
  | x, .cls j => match dTy x with
    | some _ => if j < m then some false else none
    | none => none
  | x, .ty T => match dTy x with
    | some a => tyIs a T
    | none => none
  | _, _ => none
def bIsi (n m : Nat) (sub : Nat → Nat → Bool) : List D → Option S
  | [x, c] => (isOne n m sub x c).map fun b => .val (.bl b)
  | _ => none
section
variable {g : G} {X : Cx} {n m : Nat} {sub : Nat → Nat → Bool}
theorem dTy_in {x : D} {a : String} (h : dTy x = some a) : tyNames.contains a = true := by
  cases x <;> first | (cases h; decide) | (cases h)
theorem dTy_ty {F H : Hp} {as : List Addr} {μ : Sto} {x : D} {a : String} {v : V} (hg : g.K = X.K) (sr : SR g F as μ H) (h : dTy x = some a) (r : VR g F H x v) : TyX X.K H v (.type a) := by
  cases x with
  | non => cases h; cases vr_non r; exact .base .non
  | bl b => cases h; cases vr_bl r; exact .base (.bl b)
  | int i => cases h; cases vr_int r; exact .base (.int i)
  | str z => cases h; cases vr_str r; exact .base (.str z)
  | lst ds => cases h; obtain ⟨a, vs, rfl, h1, _⟩ := vr_lst sr r; exact .base (.lst h1)
  | tup ds =>
    cases h
    obtain ⟨a, vs, rfl, h1, _⟩ := vr_tup sr r
    rcases h1 with (h1 | ⟨o, h1⟩) | ⟨o, its, k, h1, h2, _⟩
    · exact .base (.tup h1)
    · exact .fTuple h1
    · exact .kTuple (hg ▸ h1) h2
  | scr ns =>
    cases h
    obtain ⟨a, rfl, h1⟩ := vr_scr sr r
    rcases h1 with (h1 | ⟨o, h1⟩) | ⟨o, its, k, h1, h2, _⟩
    · exact .base (.lst h1)
    · exact .base (.frz h1)
    · exact .kList (hg ▸ h1) h2
  | dic ks ds =>
    cases h
    rcases r with ⟨_, _, _, e, _⟩ | r
    · cases e
    · unfold Rep at r
      obtain ⟨a, o, vs, rfl, e1, _⟩ := r
      exact .fDict (sr.sub _ _ e1)
  | _ => cases h
theorem vr_obj {F H : Hp} {as : List Addr} {μ : Sto} {c : Nat} {fs : List D} {v : V} (sr : SR g F as μ H) (h : VR g F H (.obj c fs) v) : ∃ a dx vs, v = .ref a ∧ H a = some (.ins (g.cad c) dx ((g.fl c).zip vs)) ∧ vs.length = (g.fl c).length ∧ Reps g F fs vs := by
  rcases h with ⟨_, _, _, e, _⟩ | h
  · cases e
  · unfold Rep at h
    obtain ⟨a, dx, vs, e1, e2, e3, e4⟩ := h
    exact ⟨a, dx, vs, e1, sr.sub _ _ e2, e3, e4⟩
theorem vr_cls {F H : Hp} {c : Nat} {v : V} (h : VR g F H (.cls c) v) : v = .ref (g.cad c) := by
  rcases h with ⟨_, _, _, e, _⟩ | h
  · cases e
  · unfold Rep at h; exact h
theorem vr_ty {F H : Hp} {T : String} {v : V} (h : VR g F H (.ty T) v) : v = .ty T := by
  rcases h with ⟨_, _, _, e, _⟩ | h
  · cases e
  · unfold Rep at h; exact h
theorem co_isi (hg : g.K = X.K) (kf : KitF g n m sub) : CallOk g X (.builtin "isinstance") (bIsi n m sub) := by
  intro xs s F as μ H vs Q e sr hx k
  unfold bIsi at e
  split at e
  · rename_i x c
    obtain ⟨b, h, rfl⟩ := Option.map_eq_some_iff.mp e
    obtain ⟨v, u, rfl, h1, h2⟩ := vrs2 hx
    have fin : Q (.bl b) H := k F as _ H .refl sr ra_bl
    unfold isOne at h
    split at h
    · rename_i i fs j
      split at h
      · rename_i hz
        cases h
        obtain ⟨a, dx, us, rfl, e1, _, _⟩ := vr_obj sr h1
        cases vr_cls h2
        refine cc call_isi ⟨_, _, _, _, _, rfl, .own _, .base (.ins e1 ?_ ?_ ?_ ?_ ?_), ?_, fin⟩
        · exact hg ▸ kf.cls i hz.1
        · exact hg ▸ kf.ha i hz.1
        · exact hg ▸ kf.hn (Nat.lt_of_le_of_lt (Nat.zero_le _) hz.1)
        · exact hg ▸ kf.htk (Nat.lt_of_le_of_lt (Nat.zero_le _) hz.1)
        · exact hg ▸ kf.hm i hz.1
        · exact hg ▸ kf.own i j hz.1 hz.2
      · cases h
    · rename_i i fs T
      split at h
      · rename_i hz
        cases h
        obtain ⟨a, dx, us, rfl, e1, _, _⟩ := vr_obj sr h1
        cases vr_ty h2
        refine cc call_isi ⟨_, _, _, _, _, rfl, .ty _, .base (.ins e1 ?_ ?_ ?_ ?_ ?_), ?_, fin⟩
        · exact hg ▸ kf.cls i hz.1
        · exact hg ▸ kf.ha i hz.1
        · exact hg ▸ kf.hn (Nat.lt_of_le_of_lt (Nat.zero_le _) hz.1)
        · exact hg ▸ kf.htk (Nat.lt_of_le_of_lt (Nat.zero_le _) hz.1)
        · exact hg ▸ kf.hm i hz.1
        · exact hg ▸ kf.bl i T hz.1 hz.2
      · cases h
    · rename_i j _
      split at h
      · rename_i a ha
        split at h
        · rename_i hz
          cases h
          cases vr_cls h2
          exact cc call_isi ⟨_, _, _, _, _, rfl, .own _, dTy_ty hg sr ha h1, hg ▸ kf.ty j a hz (dTy_in ha), fin⟩
        · cases h
      · cases h
    · split at h
      · rename_i a ha
        cases vr_ty h2
        exact cc call_isi ⟨_, _, _, _, _, rfl, .ty _, dTy_ty hg sr ha h1, tyIs_kit h, fin⟩
      · cases h
    · cases h
  · cases e
end
def dIx : D → D → Option S
  | .lst ds, .int i => (atI ds i).map .val
  | .tup ds, .int i => (atI ds i).map .val
  | .scr ns, .int i => (atI ns i).map fun n => .val (.int n)
  | .str z, .int i => if z.length ≤ sizeLine then (atI z.cps.toList i).map fun c => .val (.str ⟨#[c]⟩) else none
  | _, _ => none
def notSlice : Expr → Bool
  | .Slice _ _ _ _ => false
  | _ => true
theorem plainIx {e : Expr} (h : notSlice e = true) : PlainIx e := by
  cases e <;> first | (exact fun _ _ => rfl) | (exact absurd (show false = true from h) Bool.false_ne_true)
section
variable {g : G} {X : Cx} {W : WX} {a b : Expr} {ma mb : ME} {pos : Pos}
theorem atI_reps {F : Hp} {ds : List D} {vs : List V} {i : Int} {d : D} (r : Reps g F ds vs) (h : atI ds i = some d) : ∃ v, atI vs i = some v ∧ Rep g F d v := by
  unfold atI at h ⊢
  obtain ⟨j, h1, h2⟩ := Option.bind_eq_some_iff.mp h
  obtain ⟨v, h3, h4⟩ := r.get h2
  refine ⟨v, ?_, h4⟩
  rw [r.length, h1]
  exact h3
theorem se_ix (hg : g.K = X.K) (ha : SE g X W a ma) (hb : SE g X W b mb) (hs : notSlice b = true) : SE g X W (.Subscript a b pos) (mOp2 dIx ma mb) := by
  refine ⟨fun F as ρ μ σ H Q r μ' h sr er post => wE (pe_ix ix_seq pe_wp pe_wp (plainIx hs)) ?_⟩
  refine ha.then_ (show andThen _ _ = some (r, μ') from h) sr er (fun x e => by subst e; exact post) fun s1 μ1 F1 as1 v1 H1 h1 x1 sr1 er1 ra1 => ?_
  obtain ⟨F1', x1', sr1', rs1⟩ := root_ok sr1 ra1
  refine hb.then_ h1 sr1' (er1.mono x1') (fun x e => by subst e; exact PErr.ext (x1.trans x1') post) fun s2 μ2 F2 as2 v2 H2 h2 x2 sr2 er2 ra2 => ?_
  obtain ⟨x, y, s, e1, e2, e3, e4, e5⟩ := fin2_some h2
  subst e4 e5
  have hx := view_rs sr2 (rs1.mono x2) e1
  have hy := view_ra sr2 ra2 e2
  have fin : ∀ w, RA g F2 as2 H2 s w → Q w H2 := fun w q => post F2 as2 w H2 ((x1.trans x1').trans x2) sr2 q
  unfold dIx at e3
  split at e3
  · obtain ⟨d, e6, rfl⟩ := Option.map_eq_some_iff.mp e3
    obtain ⟨p, vs, rfl, h3, h4⟩ := vr_lst sr2 hx
    cases vr_int hy
    obtain ⟨w, h5, h6⟩ := atI_reps h4 e6
    exact .inl ⟨p, vs, _, w, rfl, rfl, SqL.of h3, h5, fin w h6⟩
  · obtain ⟨d, e6, rfl⟩ := Option.map_eq_some_iff.mp e3
    obtain ⟨p, vs, rfl, h3, h4⟩ := vr_tup sr2 hx
    cases vr_int hy
    obtain ⟨w, h5, h6⟩ := atI_reps h4 e6
    exact .inr (.inl ⟨p, vs, _, w, rfl, rfl, hg ▸ h3, h5, fin w h6⟩)
  · obtain ⟨d, e6, rfl⟩ := Option.map_eq_some_iff.mp e3
    obtain ⟨p, rfl, h3⟩ := vr_scr sr2 hx
    cases vr_int hy
    refine .inl ⟨p, _, _, .int d, rfl, rfl, hg ▸ h3, ?_, fin _ ra_int⟩
    unfold atI at e6 ⊢
    obtain ⟨j, h5, h6⟩ := Option.bind_eq_some_iff.mp e6
    rw [List.length_map, h5]
    show (List.map V.int _)[j]? = _
    rw [List.getElem?_map, h6]
    rfl
  · split at e3
    · rename_i hz
      obtain ⟨d, e6, rfl⟩ := Option.map_eq_some_iff.mp e3
      cases vr_str hx
      cases vr_int hy
      exact .inr (.inr ⟨_, _, d, rfl, rfl, hz, e6, fin _ ra_str⟩)
    · cases e3
  · cases e3
end
def notCall : Expr → Bool
  | .Call _ [] [] _ => false
  | _ => true
theorem attrBase {e : Expr} {f : Str} {env : PySem.Env} (h : notCall e = true) : attributeBase e f env (eval e env) = eval e env := by
  cases e with
  | Call f es ks p =>
    cases es with
    | nil =>
      cases ks with
      | nil => exact absurd (show false = true from h) Bool.false_ne_true
      | cons k ks => cases f <;> rfl
    | cons a es => cases f <;> rfl
  | _ => rfl
/-- the fields' places: of class c the name f is the k-th -/
def fldIx (fls : List (List Str)) (c : Nat) (f : Str) : Option Nat := match fls[c]? with
  | some l => l.idxOf? f
  | none => none
def insGet (f : Str) : List (Str × D) → Option D := List.lookup f
def finA (fls : List (List Str)) (f : Str) (s : S) (μ : Sto) : Option R := match s with
  | .val (.obj c fs) => (match fldIx fls c f with
    | some k => (match fs[k]? with
      | some d => some (.ok (.val d), μ)
      | none => none)
    | none => none)
  | .cell k => (match μ[k]? with
    | some (.ins c fs) => (match insGet f fs with
      | some d => if c < fls.length then some (.ok (.val d), μ) else none
      | none => none)
    | _ => none)
  | _ => none
def mAttr (fls : List (List Str)) (f : Str) (a : ME) : ME := fun ρ μ => andThen (a ρ μ) (finA fls f)
/-- the classes' fields as the head has them -/
structure FldF (g : G) (fls : List (List Str)) : Prop where
  fl : ∀ c l, fls[c]? = some l → g.fl c = l
  cls : ∀ c, c < fls.length → Cls g.K (g.cad c)
  no : ∀ c l f, fls[c]? = some l → f ∈ l → NoAttr g.K (g.cad c) f
theorem idxOf_lookup {l : List Str} {vs : List V} {f : Str} {k : Nat} {v : V} (h : l.idxOf? f = some k) (hv : vs[k]? = some v) : (l.zip vs).lookup f = some v := by
  induction l generalizing vs k with
  | nil => simp at h
  | cons x l ih =>
    rw [List.idxOf?_cons] at h
    cases vs with
    | nil => simp at hv
    | cons w vs =>
      by_cases e : x = f
      · subst e
        simp only [beq_self_eq_true, if_true, Option.some.injEq] at h
        subst h
        simp only [List.getElem?_cons_zero, Option.some.injEq] at hv
        subst hv
        simp [List.lookup]
      · have e1 : (x == f) = false := beq_eq_false_iff_ne.mpr e
        rw [e1] at h
        simp only [Bool.false_eq_true, if_false, Option.map_eq_some_iff] at h
        obtain ⟨j, h1, rfl⟩ := h
        rw [List.getElem?_cons_succ] at hv
        have e2 : (f == x) = false := beq_eq_false_iff_ne.mpr (fun z => e z.symm)
        show List.lookup f ((x, w) :: l.zip vs) = some v
        simp only [List.lookup, e2]
        exact ih h1 hv
theorem lookup_reps {g : G} {F : Hp} {f : Str} {d : D} : ∀ {fs : List (Str × D)} {vs : List V}, Reps g F (fs.map (·.2)) vs → fs.lookup f = some d → ∃ v, ((fs.map (·.1)).zip vs).lookup f = some v ∧ Rep g F d v
  | [], _, _, h => by cases h
  | (x, y) :: fs, vs, r, h => by
    obtain ⟨v, r', rfl, h1, h2⟩ := Reps.cons_iff.mp r
    simp only [List.map_cons, List.zip_cons_cons]
    by_cases e : f = x
    · subst e
      simp only [List.lookup, beq_self_eq_true, Option.some.injEq] at h ⊢
      subst h
      exact ⟨v, rfl, h1⟩
    · have e1 : (f == x) = false := beq_eq_false_iff_ne.mpr e
      simp only [List.lookup, e1] at h ⊢
      exact lookup_reps h2 h
section
variable {g : G} {X : Cx} {W : WX} {a : Expr} {ma : ME} {pos : Pos} {f : Str} {fls : List (List Str)}
theorem se_attr (hg : g.K = X.K) (ff : FldF g fls) (hno : ∀ c, c < fls.length → NoAttr g.K (g.cad c) f) (ha : SE g X W a ma) (hs : notCall a = true) : SE g X W (.Attribute a f pos) (mAttr fls f ma) := by
  refine ⟨fun F as ρ μ σ H Q r μ' h sr er post => wE (pe_fld pe_wp (attrBase hs)) ?_⟩
  refine ha.then_ (show andThen _ _ = some (r, μ') from h) sr er (fun x e => by subst e; exact post) fun s1 μ1 F1 as1 v1 H1 h1 x1 sr1 er1 ra1 => ?_
  unfold finA at h1
  split at h1
  · rename_i c fs
    split at h1
    · rename_i k hk
      split at h1
      · rename_i d hd
        cases h1
        have r1 : Rep g F1 (.obj c fs) v1 := ra1
        obtain ⟨p, dx, vs, rfl, h2, h3, h4⟩ := vr_obj sr1 (.inr r1)
        obtain ⟨w, h5, h6⟩ := h4.get hd
        unfold fldIx at hk
        split at hk
        · rename_i l hl
          have hc : c < fls.length := (List.getElem?_eq_some_iff.mp hl).1
          rw [ff.fl c l hl] at h2
          refine ⟨p, _, dx, _, w, rfl, h2, hg ▸ ff.cls c hc, hg ▸ hno c hc, idxOf_lookup hk h5, post F1 as1 w H1 x1 sr1 h6⟩
        · cases hk
      · cases h1
    · cases h1
  · rename_i k
    split at h1
    · rename_i c fs hc
      split at h1
      · rename_i d hd
        split at h1
        · rename_i hlt
          cases h1
          obtain ⟨p, h2, rfl⟩ := (show ∃ p, as1[k]? = some p ∧ v1 = .ref p from ra1)
          obtain ⟨_, dx, vs, h3, h4, h5⟩ := sr1.cells k p _ h2 hc
          obtain ⟨w, h6, h7⟩ := lookup_reps h5 hd
          exact ⟨p, _, dx, _, w, rfl, h3, hg ▸ ff.cls c hlt, hg ▸ hno c hlt, h6, post F1 as1 w H1 x1 sr1 h7⟩
        · cases h1
      · cases h1
    · cases h1
  · cases h1
end
end Sz
set_option Elab.async false
set_option linter.all false
set_option maxRecDepth 100000
set_option maxHeartbeats 4000000
namespace Sz
open PySem PySem.Spec L2
def kwNames : List Keyword → Option (List Str)
  | [] => some []
  | ⟨some n, _, _⟩ :: r => (kwNames r).map (n :: ·)
  | _ => none
theorem kw_all {env : PySem.Env} {pos : Pos} : ∀ {kws : List Keyword} {ks : List Str}, kwNames kws = some ks →
    (backToKw pos (keywordEach kws env)).all (·.1.isSome) = true ∧ (backToKw pos (keywordEach kws env)).filterMap (·.1) = ks ∧ (backToKw pos (keywordEach kws env)).any (·.1.isNone) = false ∧ kws.length = ks.length
  | [], ks, h => by cases h; exact ⟨rfl, rfl, rfl, rfl⟩
  | ⟨none, _, _⟩ :: r, ks, h => by cases h
  | ⟨some n, v, p⟩ :: r, ks, h => by
    unfold kwNames at h
    obtain ⟨ks', h1, rfl⟩ := Option.map_eq_some_iff.mp h
    obtain ⟨a, b, c, d⟩ := kw_all (env := env) (pos := pos) h1
    refine ⟨?_, ?_, ?_, by rw [List.length_cons, List.length_cons, d]⟩
    · show (true && (backToKw pos (keywordEach r env)).all (·.1.isSome)) = true
      rw [a]; rfl
    · show n :: (backToKw pos (keywordEach r env)).filterMap (·.1) = n :: ks'
      rw [b]
    · show (false || (backToKw pos (keywordEach r env)).any (·.1.isNone)) = false
      rw [c]; rfl
section
variable {g : G} {X : Cx} {W : WX} {e : Expr} {m : ME} {ms : List ME} {kws : List Keyword} {nm : Option Str} {kpos : Pos}
theorem sk_nil : SK g X W [] (mArgs []) := by
  refine ⟨fun F as ρ μ σ H Q r μ' h sr er post => wK pk_nil ?_⟩
  cases h
  exact post F as [] H .refl sr .nil
theorem sk_cons (h1 : SE g X W e m) (h2 : SK g X W kws (mArgs ms)) : SK g X W (⟨nm, e, kpos⟩ :: kws) (mArgs (m :: ms)) := by
  refine ⟨fun F as ρ μ σ H Q r μ' h sr er post => wK (pk_cons pe_wp pk_wp) ?_⟩
  refine h1.then_ (show andThen _ _ = some (r, μ') from h) sr er (fun x e => by subst e; exact post) fun s1 μ1 F1 as1 v1 H1 h3 x1 sr1 er1 ra1 => ?_
  obtain ⟨F1', x1', sr1', rs1⟩ := root_ok sr1 ra1
  refine h2.then_ h3 sr1' (er1.mono x1') (fun x e => by subst e; exact PErr.ext (x1.trans x1') post) fun ss μ2 F2 as2 vs H2 h4 x2 sr2 er2 rs2 => ?_
  cases h4
  exact post F2 as2 _ H2 ((x1.trans x1').trans x2) sr2 (.cons (rs1.mono x2) rs2)
end
/-- the bound values in the parameters' order: positional, by name, defaults -/
def bindG {α : Type} (ks : List Str) (us ws dfl : List α) (np : Nat) : List Str → Nat → Option (List α)
  | [], _ => some []
  | p :: ps, i => match (match us[i]? with
      | some x => some x
      | none => match ks.idxOf? p with
        | some j => ws[j]?
        | none => dfl[i + dfl.length - np]?), bindG ks us ws dfl np ps (i + 1) with
    | some x, some r => some (x :: r)
    | _, _ => none
theorem Paired.len {α β : Type} {R : α → β → Prop} {xs : List α} {ys : List β} (h : Paired R xs ys) : xs.length = ys.length := Paired.length h
theorem paired_get {α β : Type} {R : α → β → Prop} : ∀ {xs : List α} {ys : List β} {i : Nat} {x : α}, Paired R xs ys → xs[i]? = some x → ∃ y, ys[i]? = some y ∧ R x y
  | _, _, _, _, .nil, e => by simp at e
  | _, _, 0, _, .cons r _, e => by simp at e; subst e; exact ⟨_, rfl, r⟩
  | _, _, i + 1, x, .cons _ t, e => by
    obtain ⟨u, h1, h2⟩ := paired_get (i := i) (x := x) t (by simpa using e)
    exact ⟨u, by simpa using h1, h2⟩
theorem bindG_ex {α β : Type} {R : α → β → Prop} {ks : List Str} {us ws dfl : List α} {us' ws' dfl' : List β} {np : Nat} (hu : Paired R us us') (hw : Paired R ws ws') (hd : Paired R dfl dfl') :
    ∀ {ps : List Str} {i : Nat} {b : List α}, bindG ks us ws dfl np ps i = some b → ∃ b', bindG ks us' ws' dfl' np ps i = some b' ∧ Paired R b b'
  | [], i, b, h => by
    cases h
    exact ⟨[], rfl, .nil⟩
  | p :: ps, i, b, h => by
    unfold bindG at h
    split at h
    · rename_i x r h1 h2
      cases h
      obtain ⟨b', e1, e2⟩ := bindG_ex hu hw hd h2
      have key : ∃ x', (match us'[i]? with
          | some x => some x
          | none => match ks.idxOf? p with
            | some j => ws'[j]?
            | none => dfl'[i + dfl'.length - np]?) = some x' ∧ R x x' := by
        cases q : us[i]? with
        | some y =>
          rw [q] at h1
          cases h1
          obtain ⟨y', q', r⟩ := paired_get hu q
          exact ⟨y', by rw [q'], r⟩
        | none =>
          have q' : us'[i]? = none := by
            rw [List.getElem?_eq_none_iff] at q ⊢
            rw [← Paired.length hu]; exact q
          rw [q] at h1
          rw [q']
          simp only at h1 ⊢
          cases z : ks.idxOf? p with
          | some j =>
            rw [z] at h1
            simp only at h1 ⊢
            exact paired_get hw h1
          | none =>
            rw [z] at h1
            simp only at h1 ⊢
            rw [← Paired.length hd]
            exact paired_get hd h1
      obtain ⟨x', k1, k2⟩ := key
      refine ⟨x' :: b', ?_, .cons k2 e2⟩
      unfold bindG
      rw [k1, e1]
    · cases h
theorem bindG_rel {α β : Type} {R : α → β → Prop} {ks : List Str} {us ws dfl : List α} {us' ws' dfl' : List β} {np : Nat} (hu : Paired R us us') (hw : Paired R ws ws') (hd : Paired R dfl dfl')
    {ps : List Str} {i : Nat} {b : List α} {b' : List β} (h : bindG ks us ws dfl np ps i = some b) (h' : bindG ks us' ws' dfl' np ps i = some b') : Paired R b b' := by
  obtain ⟨c, e1, e2⟩ := bindG_ex hu hw hd h
  rw [h'] at e1
  cases e1
  exact e2
/-- how a def's call of that shape binds -/
structure Bnd (K : PySem.W.Frag) (fd : FuncData) (ps : List Str) (n : Nat) (ks : List Str) (dvs : List V) : Prop where
  to : ∃ ds, Vals dvs ds ∧ ∀ (s : Shared) (us ws : List Value), K.In s.heap → us.length = n → ws.length = ks.length →
    ∃ b, bindG ks us ws ds ps.length ps 0 = some b ∧ BindsTo s fd ⟨us, ks.zip ws⟩ (ps.zip b)
theorem bindG_len {α : Type} {ks : List Str} {us ws dfl : List α} {np : Nat} : ∀ {ps : List Str} {i : Nat} {b : List α}, bindG ks us ws dfl np ps i = some b → b.length = ps.length
  | [], _, _, h => by cases h; rfl
  | p :: ps, i, b, h => by
    unfold bindG at h
    split at h
    · rename_i x r h1 h2
      cases h
      rw [List.length_cons, List.length_cons, bindG_len h2]
    · cases h
/-- a def's promise; gb: only where no repr is under way -/
structure FnG (gb : Bool) (P : Program) (w : World) (K : PySem.W.Frag) (mg : Str → Option Value) (base : Heap) (cx : CXT) (k : Nat) (f : Addr) (fd : FuncData) (ps : List Str) (sp : Sp) : Prop where
  wide : ∀ vs H Q E, sp vs H Q E → vs.length = ps.length
  go : ∀ (A : Around) (outer : List Env) (s : Shared) (H : Hp) (args : Args) (us : List Value) (vs : List V) (Q : VK) (E : XK), Room k A → (gb = true → A.guards = some []) → Env0 P w K mg base A outer s H → BindsTo s fd args (ps.zip us) → Vals vs us → sp vs H Q E →
    codeAny (model P w) A (.call (.ref f) args) (CR cx outer P w H s Q E) s
def leB (a b : Bool) : Bool := !a || b
theorem leB_ok {a b : Bool} (h : leB a b = true) (e : a = true) : b = true := by
  subst e
  exact h
section
variable {a b : Bool} {P : Program} {w : World} {K : PySem.W.Frag} {mg : Str → Option Value} {base : Heap} {cx : CXT} {j k : Nat} {f : Addr} {fd : FuncData} {ps : List Str} {sp : Sp}
theorem FnG.at_most (F : FnG a P w K mg base cx j f fd ps sp) (h : j ≤ k) : FnG a P w K mg base cx k f fd ps sp :=
  ⟨F.wide, fun A outer s H args us vs Q E room gd e0 bd rv ask => F.go A outer s H args us vs Q E (room.mono h) gd e0 bd rv ask⟩
theorem FnG.gd (F : FnG a P w K mg base cx k f fd ps sp) (h : leB a b = true) : FnG b P w K mg base cx k f fd ps sp :=
  ⟨F.wide, fun A outer s H args us vs Q E room gd e0 bd rv ask => F.go A outer s H args us vs Q E room (fun e => gd (leB_ok h e)) e0 bd rv ask⟩
end
theorem make_guards {A : Around} {C : Addr} {us : List Value} {kw : List (Str × Value)} : (A.under (.builtin "type.__call__" ⟨.ref C :: us, kw⟩)).guards = A.guards := by
  have e : (Code.builtin "type.__call__" ⟨.ref C :: us, kw⟩).isGuard = false := by
    show guardIds.contains "type.__call__" = false
    decide +kernel
  have z : (Code.builtin "type.__call__" ⟨.ref C :: us, kw⟩).guards = [] := by
    unfold Code.guards
    rw [e]
    rfl
  show pushGuards (Code.builtin "type.__call__" ⟨.ref C :: us, kw⟩).guards A.guards = A.guards
  rw [z]
  cases A.guards <;> rfl
def PostC (g : G) (F : Hp) (as : List Addr) (Q : VK) (E : XK) : Except Ex S → Sto → Prop
  | .ok s, μ' => ∀ F' as' v H', Ext F as F' as' → SR g F' as' μ' H' → RA g F' as' H' s v → Q v H'
  | .error x, μ' => ∀ F' as' cls d H', Ext F as F' as' → SR g F' as' μ' H' → RX g F' H' x cls d → E cls d H'
/-- the promise: it does what the shallow code tells -/
def spOf (g : G) (np : Nat) (sem : List S → Sto → Option R) : Sp := fun vs H Q E => vs.length = np ∧ ∃ F as ss μ r μ', SR g F as μ H ∧ RSs g F as ss vs ∧ sem ss μ = some (r, μ') ∧ PostC g F as Q E r μ'
section
variable {gb : Bool} {g : G} {X : Cx} {W : WX} {k : Nat} {f C : Addr} {fd : FuncData} {ps ks : List Str} {sp : Sp} {dvs : List V} {n : Nat}
/-- the callee runs -/
theorem run_sem {pins : List (Addr × Obj)} {σ : L2.St} {H : Hp} {s : Shared} {Q : VK} {us ws : List Value} {vs zs bs : List V} (F : FnG gb X.prog X.w X.K X.mg X.base (CX X.prog X.w) k f fd ps sp) (hr : Room k X.A) (gd : gb = true → X.A.guards = some []) (hb : Bnd X.K fd ps n ks dvs) (tk : Takes X W)
    (I : Inv X pins σ H s) (r : Vals vs us) (rz : Vals zs ws) (l1 : vs.length = n) (l2 : zs.length = ks.length) (hB : bindG ks vs zs dvs ps.length ps 0 = some bs) (h : sp bs H Q (WE W σ)) : wpAny (model X.prog X.w) X.A (call (.ref f) us (ks.zip ws)) (EP X pins σ Q) X.xe s := by
  obtain ⟨ds, rd, hb⟩ := hb.to
  obtain ⟨b, e1, e2⟩ := hb s us ws I.kIn (r.length.symm.trans l1) (rz.length.symm.trans l2)
  have r2 : Vals bs b := bindG_rel r rz rd hB e1
  refine wpAny_call (codeAny_mono (F.go X.A X.stack s H ⟨us, ks.zip ws⟩ b bs Q (WE W σ) hr gd I.env0 e2 r2 h) fun r s' hq => ?_)
  cases r with
  | error e => exact passAt tk σ pins H s e s' I hq
  | ok fl =>
    cases fl with
    | ret u => exact I.after hq
    | next => exact False.elim hq
    | brk => exact False.elim hq
    | cont => exact False.elim hq
/-- C(..): a new instance, its __init__ -/
theorem run_make_sem {pins : List (Addr × Obj)} {σ : L2.St} {H : Hp} {s : Shared} {Q : VK} {us ws : List Value} {vs zs : List V} (M : Mk X.K C f) (F : FnG gb X.prog X.w X.K X.mg X.base (CX X.prog X.w) k f fd ps sp) (hr : Room (k + 1) X.A) (gd : gb = true → X.A.guards = some []) (hb : Bnd X.K fd ps (n + 1) ks dvs)
    (tk : Takes X W) (I : Inv X pins σ H s) (r : Vals vs us) (rz : Vals zs ws) (l1 : vs.length = n) (l2 : zs.length = ks.length)
    (h : ∀ x dx, H x = none → H dx = none → dx ≠ x → ∃ bs, bindG ks (.ref x :: vs) zs dvs ps.length ps 0 = some bs ∧ sp bs (upd (upd H dx (.own x)) x (.ins C dx [])) (fun v H2 => v = .non ∧ Q (.ref x) H2) (WE W σ)) :
    wpAny (model X.prog X.w) X.A (call (.ref C) us (ks.zip ws)) (EP X pins σ Q) X.xe s := by
  obtain ⟨bs, hB, hq⟩ := h (s.heap.objs.size + 1) s.heap.objs.size (I.hok.fresh (Nat.le_succ _)) (I.hok.fresh (Nat.le_refl _)) (Nat.ne_of_lt (Nat.lt_succ_self _))
  have I2 := Inv.made (C := C) I
  have r1 : Vals (V.ref (s.heap.objs.size + 1) :: vs) (Value.ref (s.heap.objs.size + 1) :: us) := .cons rfl r
  obtain ⟨ds, rd, hb⟩ := hb.to
  obtain ⟨b, e1, e2⟩ := hb _ (Value.ref (s.heap.objs.size + 1) :: us) ws I2.kIn (by rw [List.length_cons, ← r.length, l1]) (rz.length.symm.trans l2)
  have r2 : Vals bs b := bindG_rel r1 rz rd hB e1
  refine wpAny_call (make_map (f := f) I.kIn M.makes M.init (beq_iff_eq.mp M.fn) (codeAny_mono (F.go _ X.stack _ _ ⟨Value.ref (s.heap.objs.size + 1) :: us, ks.zip ws⟩ b bs _ (WE W σ) (hr.make C us (ks.zip ws)) (fun e => make_guards.trans (gd e))
    (I2.env0.make C us (ks.zip ws)) e2 r2 hq) fun r s' hq' => ?_))
  cases r with
  | error e => exact passAt tk σ pins _ _ e s' I2 hq'
  | ok fl =>
    cases fl with
    | ret u =>
      obtain ⟨v, H', I3, rv, ev, q3⟩ := I2.after hq'
      subst ev
      exact ⟨rv, ⟨V.ref (s.heap.objs.size + 1), H', I3, rfl, q3⟩⟩
    | next => exact False.elim hq'
    | brk => exact False.elim hq'
    | cont => exact False.elim hq'
/-- an argument list with its code -/
inductive SAs (g : G) (X : Cx) (W : WX) : List Expr → List ME → Prop
  | nil : SAs g X W [] []
  | cons {e : Expr} {es : List Expr} {ms : List ME} (hn : (e :: es).all notStar = true) (h : SA g X W (e :: es) (mArgs ms)) : SAs g X W (e :: es) ms
/-- the values of a call, then the call -/
theorem callW {fv : Value} {first : List Value} {es : List Expr} {ms kms : List ME} {kws : List Keyword} {pos : Pos} {pins : List (Addr × Obj)} {σ : L2.St} {H : Hp} {s : Shared} {Q : VK} {F : Hp} {as : List Addr} {ρ : En} {μ μ' : Sto} {r : Except Ex S}
    {f : List S → List S → Sto → Option R} (I : Inv X pins σ H s) (hk : PySem.W.keepIn X.K fv = true) (hks : kwNames kws = some ks) (ha : SAs g X W es ms) (hkw : SK g X W kws (mArgs kms))
    (h : (andThen (mArgs ms ρ μ) fun ss μ1 => andThen (mArgs kms ρ μ1) fun ts μ2 => f ss ts μ2) = some (r, μ')) (sr : SR g F as μ H) (er : ER g F as ρ σ) (hx : ∀ x, r = .error x → PErr g W F as σ x μ')
    (k : ∀ ss ts μ2 F2 as2 vs zs H2, f ss ts μ2 = some (r, μ') → Ext F as F2 as2 → SR g F2 as2 μ2 H2 → ER g F2 as2 ρ σ → RSs g F2 as2 ss vs → RSs g F2 as2 ts zs → ∀ (st : Shared) (us ws : List Value), Inv X pins σ H2 st → Vals vs us → Vals zs ws → wpAny (model X.prog X.w) X.A (call fv (first ++ us) (ks.zip ws)) (EP X pins σ Q) X.xe st) :
    wpAny (model X.prog X.w) X.A (callWith pos fv first (backTo pos (starEach es X.env)) (backToKw pos (keywordEach kws X.env))) (EP X pins σ Q) X.xe s := by
  obtain ⟨a, b, c, d⟩ := kw_all (env := X.env) (pos := pos) hks
  cases ha with
  | nil =>
    have q : wpK X kws σ H fun zs H2 => ∀ (st : Shared) (ws : List Value), Inv X pins σ H2 st → Vals zs ws → wpAny (model X.prog X.w) X.A (call fv (first ++ []) (ks.zip ws)) (EP X pins σ Q) X.xe st := by
      have h' : (andThen (mArgs kms ρ μ) fun ts μ2 => f [] ts μ2) = some (r, μ') := h
      exact hkw.then_ h' sr er hx fun ts μ2 F2 as2 zs H2 h2 x2 sr2 er2 rs2 st ws I2 rz => k [] ts μ2 F2 as2 [] zs H2 h2 x2 sr2 er2 .nil rs2 st [] ws I2 .nil rz
    refine PySem.W.callWith_KW0 (h₀ := X.base) I.ok.mod.kin hk a (thn (q pos pins s I) fun ws s2 ⟨zs, H2, I2, rz, q2⟩ => ⟨I2.kIn, ?_⟩) (by rw [c]; rfl)
    rw [b]
    exact q2 s2 ws I2 rz
  | cons hn ha =>
    rename_i e es
    rw [List.all_cons, Bool.and_eq_true] at hn
    have q : wpA X (e :: es) σ H fun vs H1 => wpK X kws σ H1 fun zs H2 => ∀ (st : Shared) (us ws : List Value), Inv X pins σ H2 st → Vals vs us → Vals zs ws → wpAny (model X.prog X.w) X.A (call fv (first ++ us) (ks.zip ws)) (EP X pins σ Q) X.xe st := by
      refine ha.then_ h sr er hx fun ss μ1 F1 as1 vs H1 h1 x1 sr1 er1 rs1 => ?_
      exact hkw.then_ h1 sr1 er1 (fun x e => (hx x e).ext x1) fun ts μ2 F2 as2 zs H2 h2 x2 sr2 er2 rs2 st us ws I2 ru rz => k ss ts μ2 F2 as2 vs zs H2 h2 (x1.trans x2) sr2 er2 (rs1.mono x2) rs2 st us ws I2 ru rz
    refine PySem.W.callWith_KW (h₀ := X.base) I.ok.mod.kin hk a (thn (q pos pins s I) fun us s1 ⟨vs, H1, I1, r, q⟩ => ?_) ?_ (starEach_cons hn.1)
    · refine thn (q pos pins s1 I1) fun ws s2 ⟨zs, H2, I2, rz, q2⟩ => ⟨I2.kIn, ?_⟩
      rw [b]
      exact q2 s2 us ws I2 r rz
    · rw [c, starEach_cons hn.1]
      show ((false || (backTo pos (starEach es X.env)).any (·.1)) || false) = false
      rw [starEach_plain hn.2]
      rfl
/-- a def as callers see it: parameters, defaults, code -/
structure FnI where
  ps : List Str
  dfl : List D
  sem : List S → Sto → Option R
def callF (fi : FnI) (n : Nat) (ks : List Str) (ss ts : List S) (μ : Sto) : Option R :=
  if ss.length = n ∧ ts.length = ks.length then (match bindG ks ss ts (fi.dfl.map .val) fi.ps.length fi.ps 0 with
    | some bs => fi.sem bs μ
    | none => none) else none
def mCallF (fi : FnI) (n : Nat) (ks : List Str) (ms kms : List ME) : ME := fun ρ μ => andThen (mArgs ms ρ μ) fun ss μ1 => andThen (mArgs kms ρ μ1) fun ts μ2 => callF fi n ks ss ts μ2
/-- what is known of a def there: its object, binding, promise -/
structure FnK (gb : Bool) (g : G) (X : Cx) (fi : FnI) (k : Nat) (f : Addr) (n : Nat) (ks : List Str) : Prop where
  ok : ∃ fd dvs, FnG gb X.prog X.w X.K X.mg X.base (CX X.prog X.w) k f fd fi.ps (spOf g fi.ps.length fi.sem) ∧ Bnd X.K fd fi.ps n ks dvs ∧ ∀ F, Reps g F fi.dfl dvs
theorem rss_vals {F : Hp} {as : List Addr} : ∀ {ds : List D} {vs : List V}, Reps g F ds vs → RSs g F as (ds.map .val) vs
  | [], vs, h => by rw [Reps.nil_iff.mp h]; exact .nil
  | d :: ds, vs, h => by
    obtain ⟨v, r, rfl, h1, h2⟩ := Reps.cons_iff.mp h
    exact .cons h1 (rss_vals h2)
theorem postC_of {F : Hp} {as : List Addr} {σ : L2.St} {Q : VK} {r : Except Ex S} {μ : Sto} (h : PostE g W F as σ Q r μ) : PostC g F as Q (WE W σ) r μ := by
  cases r with
  | ok s => exact h
  | error x => exact h
theorem callF_run {fi : FnI} {f : Addr} {pins : List (Addr × Obj)} {σ : L2.St} {H : Hp} {Q : VK} {F : Hp} {as : List Addr} {μ μ' : Sto} {r : Except Ex S} {ss ts : List S} {vs zs : List V} (hF : FnK gb g X fi k f n ks) (hr : Room k X.A) (gd : gb = true → X.A.guards = some []) (tk : Takes X W)
    (h : callF fi n ks ss ts μ = some (r, μ')) (sr : SR g F as μ H) (rs : RSs g F as ss vs) (rt' : RSs g F as ts zs) (post : PostE g W F as σ Q r μ') (st : Shared) (us ws : List Value) (I : Inv X pins σ H st) (ru : Vals vs us) (rw' : Vals zs ws) :
    wpAny (model X.prog X.w) X.A (call (.ref f) us (ks.zip ws)) (EP X pins σ Q) X.xe st := by
  obtain ⟨fd, dvs, ok, bnd, rd⟩ := hF.ok
  unfold callF at h
  split at h
  · rename_i hl
    split at h
    · rename_i bs hb
      obtain ⟨b', e1, e2⟩ := bindG_ex rs rt' (rss_vals (as := as) (rd F)) hb
      exact run_sem ok hr gd bnd tk I ru rw' (by rw [← Paired.length rs]; exact hl.1) (by rw [← Paired.length rt']; exact hl.2) e1 ⟨bindG_len e1, F, as, bs, μ, r, μ', sr, e2, h, postC_of post⟩
    · cases h
  · cases h
theorem se_call {fi : FnI} {f : Addr} {x : Str} {p pos : Pos} {es : List Expr} {kws : List Keyword} {ms kms : List ME} (hF : FnK gb g X fi k f n ks) (hr : Room k X.A) (gd : gb = true → X.A.guards = some []) (tk : Takes X W) (hg : Gl X x) (hm : X.mg x = some (.ref f)) (hk : PySem.W.keepIn X.K (.ref f) = true)
    (hdb : (x == ("__debug__" : Str)) = false) (hks : kwNames kws = some ks) (ha : SAs g X W es ms) (hkw : SK g X W kws (mArgs kms)) : SE g X W (.Call (.Name x p) es kws pos) (mCallF fi n ks ms kms) := by
  refine ⟨fun F as ρ μ σ H Q r μ' h sr er post pins s I => ?_⟩
  refine wpAny_Call_Name_kw (ld_glob I hg hm ?_ hdb)
  refine callW (first := []) (f := fun ss ts μ2 => callF fi n ks ss ts μ2) I hk hks ha hkw h sr er (fun x e => by subst e; exact post) fun ss ts μ2 F2 as2 vs zs H2 h2 x2 sr2 er2 rs2 rz2 st us ws I2 ru rz => ?_
  exact callF_run hF hr gd tk h2 sr2 rs2 rz2 (PostE.ext x2 post) st us ws I2 ru rz
structure MkI where
  c : Nat
  fl : List Str
  fi : FnI
def finM (mi : MkI) (k : Nat) : Option R → Option R
  | some (.ok (.val .non), μ3) => (match μ3[k]? with
    | some (.ins c fs) => if c = mi.c ∧ fs.map (·.1) = mi.fl then some (.ok (.val (.obj mi.c (fs.map (·.2)))), μ3.take k) else none
    | _ => none)
  | some (.error x, μ3) => some (.error x, μ3.take k)
  | _ => none
def callM (mi : MkI) (n : Nat) (ks : List Str) (ss ts : List S) (μ : Sto) : Option R :=
  if ss.length = n ∧ ts.length = ks.length then (match bindG ks (.cell μ.length :: ss) ts (mi.fi.dfl.map .val) mi.fi.ps.length mi.fi.ps 0 with
    | some bs => finM mi μ.length (mi.fi.sem bs (μ ++ [.ins mi.c []]))
    | none => none) else none
def mMake (mi : MkI) (n : Nat) (ks : List Str) (ms kms : List ME) : ME := fun ρ μ => andThen (mArgs ms ρ μ) fun ss μ1 => andThen (mArgs kms ρ μ1) fun ts μ2 => callM mi n ks ss ts μ2
theorem take_ext {F F' : Hp} {as as' : List Addr} {μ : Sto} {H : Hp} (sr : SR g F as μ H) (x : Ext F as F' as') : as'.take μ.length = as := by
  obtain ⟨_, l, rfl⟩ := x
  rw [← sr.len, List.take_left]
/-- the store cut back behind a call -/
theorem SR.back {F F' : Hp} {as as' : List Addr} {μ μ' : Sto} {H H' : Hp} (sr : SR g F as μ H) (x : Ext F as F' as') (sr' : SR g F' as' μ' H') : SR g F' as (μ'.take μ.length) H' := by
  have := sr'.cut μ.length
  rw [take_ext sr x] at this
  exact this
theorem se_make {mi : MkI} {f : Addr} {x : Str} {p pos : Pos} {es : List Expr} {kws : List Keyword} {ms kms : List ME} (hF : FnK gb g X mi.fi k f (n + 1) ks) (hr : Room (k + 1) X.A) (gd : gb = true → X.A.guards = some []) (tk : Takes X W) (M : Mk X.K (g.cad mi.c) f) (hfl : g.fl mi.c = mi.fl) (hg : Gl X x) (hm : X.mg x = some (.ref (g.cad mi.c)))
    (hdb : (x == ("__debug__" : Str)) = false) (hks : kwNames kws = some ks) (ha : SAs g X W es ms) (hkw : SK g X W kws (mArgs kms)) : SE g X W (.Call (.Name x p) es kws pos) (mMake mi n ks ms kms) := by
  refine ⟨fun F as ρ μ σ H Q r μ' h sr er post pins s I => ?_⟩
  refine wpAny_Call_Name_kw (ld_glob I hg hm ?_ hdb)
  refine callW (first := []) (f := fun ss ts μ2 => callM mi n ks ss ts μ2) I M.kp hks ha hkw h sr er (fun x e => by subst e; exact post) fun ss ts μ2 F2 as2 vs zs H2 h2 x2 sr2 er2 rs2 rz2 st us ws I2 ru rz => ?_
  obtain ⟨fd, dvs, ok, bnd, rd⟩ := hF.ok
  unfold callM at h2
  split at h2
  · rename_i hl
    split at h2
    · rename_i bs hb
      refine run_make_sem M ok hr gd bnd tk I2 ru rz (by rw [← Paired.length rs2]; exact hl.1) (by rw [← Paired.length rz2]; exact hl.2) fun a dx ha' hdx hne => ?_
      -- the instance as a cell
      obtain ⟨sr3, f3, n3⟩ := sr2.loose (o := .own a) hdx
      have ha3 : upd H2 dx (.own a) a = none := by rw [upd_ne (Ne.symm hne)]; exact ha'
      obtain ⟨sr4, f4, n4⟩ := sr3.loose (o := .ins (g.cad mi.c) dx []) ha3
      obtain ⟨sr5, x5⟩ := sr4.push (c := .ins mi.c []) upd_same n4 ⟨f4, dx, [], upd_same, rfl, Reps.nil⟩
      have hself : RSs g F2 (as2 ++ [a]) (.cell μ2.length :: ss) (.ref a :: vs) := .cons ⟨a, by rw [← sr2.len, List.getElem?_append_right (Nat.le_refl _), Nat.sub_self]; rfl, rfl⟩ (rs2.mono x5)
      obtain ⟨b', e1, e2⟩ := bindG_ex hself (rz2.mono x5) (rss_vals (as := as2 ++ [a]) (rd F2)) hb
      refine ⟨b', e1, bindG_len e1, ?_⟩
      -- its __init__'s run
      cases hs : mi.fi.sem bs (μ2 ++ [.ins mi.c []]) with
      | none => rw [hs] at h2; cases h2
      | some q =>
        obtain ⟨r3, μ3⟩ := q
        rw [hs] at h2
        refine ⟨F2, as2 ++ [a], bs, _, r3, μ3, sr5, e2, hs, ?_⟩
        cases r3 with
        | error x =>
          cases h2
          exact fun F' as' cls d H' x6 sr6 rx => post F' as2 cls d H' (x2.trans ⟨x6.1, [], by rw [List.append_nil]⟩) (sr2.back (x5.trans x6) sr6) rx
        | ok s3 =>
          intro F' as' v H' x6 sr6 ra6
          cases s3 with
          | cell _ => cases h2
          | fr _ => cases h2
          | pot _ _ _ => cases h2
          | any => cases h2
          | val d =>
            cases d with
            | non =>
              unfold finM at h2
              simp only at h2
              split at h2
              · rename_i c fs hc
                split at h2
                · rename_i hcf
                  obtain ⟨rfl, hfs⟩ := hcf
                  cases h2
                  have hv : v = .non := by have z : Rep g F' .non v := ra6; unfold Rep at z; exact z
                  refine ⟨hv, ?_⟩
                  have hka : as'[μ2.length]? = some a := by
                    obtain ⟨_, l, rfl⟩ := x6
                    rw [← sr2.len, List.append_assoc, List.getElem?_append_right (Nat.le_refl _), Nat.sub_self]
                    rfl
                  obtain ⟨fa, dx', vs', h6, h7, h8⟩ := sr6.cells _ _ _ hka hc
                  have hrep : Rep g (upd F' a (.ins (g.cad mi.c) dx' ((fs.map (·.1)).zip vs'))) (.obj mi.c (fs.map (·.2))) (.ref a) := by
                    unfold Rep
                    refine ⟨a, dx', vs', rfl, ?_, ?_, h8.mono (same_upd fa)⟩
                    · rw [upd_same, hfl, hfs]
                    · rw [hfl, ← hfs, List.length_map]; exact h7
                  obtain ⟨sr7, x7⟩ := sr6.still hka h6 fa hrep
                  have x8 : Ext F2 as2 (upd F' a (.ins (g.cad mi.c) dx' ((fs.map (·.1)).zip vs'))) as' := (x5.trans x6).trans x7
                  have sr8 := sr2.back x8 sr7
                  have ht : (μ3.set μ2.length (.frz (.obj mi.c (fs.map (·.2))))).take μ2.length = μ3.take μ2.length := by rw [List.take_set_of_le (Nat.le_refl _)]
                  rw [ht] at sr8
                  exact post _ as2 _ H' (x2.trans ⟨x8.1, [], by rw [List.append_nil]⟩) sr8 hrep
                · cases h2
              · cases h2
            | _ => cases h2
    · cases h2
  · cases h2
/-- the receiver's class -/
def clsOf (m : Str) (μ : Sto) : S → Option Nat
  | .val (.obj c _) => some c
  | .cell k => match μ[k]? with
    | some (.ins c fs) => if (fs.lookup m).isNone then some c else none
    | some (.bk c fs) => if (fs.lookup m).isNone then some c else none
    | _ => none
  | _ => none
def mMeth (m : Str) (mt : Nat → Option FnI) (n : Nat) (ks : List Str) (a : ME) (ms kms : List ME) : ME := fun ρ μ => andThen (a ρ μ) fun s0 μ0 => match clsOf m μ0 (rt s0) with
  | some c => (match mt c with
    | some fi => andThen (mArgs ms ρ μ0) fun ss μ1 => andThen (mArgs kms ρ μ1) fun ts μ2 => callF fi (n + 1) ks (rt s0 :: ss) ts μ2
    | none => none)
  | none => none
/-- what is known of the method there: for each class its def -/
structure MtK (gb : Bool) (g : G) (X : Cx) (mt : Nat → Option FnI) (m : Str) (k : Nat) (n : Nat) (ks : List Str) : Prop where
  ok : ∀ c fi, mt c = some fi → ∃ f, FnK gb g X fi k f n ks ∧ Cls X.K (g.cad c) ∧ Meth X.K (g.cad c) m f ∧ ¬ m ∈ g.fl c
theorem lookup_map_none {m : Str} : ∀ {fs : List (Str × D)} {vs : List V}, fs.lookup m = none → ((fs.map (·.1)).zip vs).lookup m = none
  | [], _, _ => rfl
  | (x, y) :: fs, [], _ => rfl
  | (x, y) :: fs, v :: vs, h => by
    cases e : (m == x) with
    | true => simp only [List.lookup, e] at h; cases h
    | false =>
      simp only [List.lookup, e] at h
      show List.lookup m ((x, v) :: (fs.map (·.1)).zip vs) = none
      simp only [List.lookup, e]
      exact lookup_map_none h
theorem lookup_bk_none {m : Str} : ∀ {fs : List (Str × Nat)} {vs : List V}, fs.lookup m = none → ((fs.map (·.1)).zip vs).lookup m = none
  | [], _, _ => rfl
  | (x, y) :: fs, [], _ => rfl
  | (x, y) :: fs, v :: vs, h => by
    cases e : (m == x) with
    | true => simp only [List.lookup, e] at h; cases h
    | false =>
      simp only [List.lookup, e] at h
      show List.lookup m ((x, v) :: (fs.map (·.1)).zip vs) = none
      simp only [List.lookup, e]
      exact lookup_bk_none h
theorem lookup_zip_none {α : Type} {m : Str} : ∀ {l : List Str} {vs : List α}, ¬ m ∈ l → (l.zip vs).lookup m = none
  | [], _, _ => rfl
  | x :: l, [], _ => rfl
  | x :: l, v :: vs, h => by
    have e : (m == x) = false := beq_eq_false_iff_ne.mpr fun z => h (by rw [z]; exact List.mem_cons_self)
    show List.lookup m ((x, v) :: l.zip vs) = none
    simp only [List.lookup, e]
    exact lookup_zip_none fun z => h (List.mem_cons_of_mem _ z)
end
/-- a receiver where super isn't meant -/
def recvOk : Expr → Bool
  | .Call (.Name id _) [] [] _ => id != ("super" : Str)
  | _ => true
theorem recv_base {o : Expr} {m : Str} {env : PySem.Env} (h : recvOk o = true) : attributeBase o m env (eval o env) = eval o env := by
  cases o with
  | Call fn args kws pos =>
    cases fn with
    | Name id p =>
      cases args with
      | nil =>
        cases kws with
        | nil => exact abase_call h
        | cons _ _ => rfl
      | cons _ _ => rfl
    | _ => rfl
  | _ => rfl
theorem all_plain : ∀ {es : List Expr} {env : PySem.Env} {pos : Pos}, es.all notStar = true → (backTo pos (starEach es env)).all (fun x => !x.1) = true
  | [], _, _, _ => rfl
  | e :: es, env, pos, h => by
    rw [List.all_cons, Bool.and_eq_true] at h
    rw [starEach_cons h.1]
    show (true && (backTo pos (starEach es env)).all (fun x => !x.1)) = true
    rw [all_plain h.2]; rfl
theorem SAs.plain {g : G} {X : Cx} {W : WX} {es : List Expr} {ms : List ME} (h : SAs g X W es ms) : es.all notStar = true := by
  cases h with
  | nil => rfl
  | cons hn _ => exact hn
/-- the line and the number of arguments of a method's call -/
def methForm (apos pos : Pos) (es : List Expr) (kws : List Keyword) : Bool := (apos.endLine == pos.line) && decide (es.length + kws.length + (if kws.isEmpty then 0 else 1) < 30)
theorem meth_tree {X : Cx} {o : Expr} {m : Str} {apos pos : Pos} {es : List Expr} {kws : List Keyword} {ks : List Str} {A : Around} {E : Value → Shared → Prop} {s : Shared} {Q : Value → Shared → Prop} (hb : recvOk o = true) (hst : es.all notStar = true) (hks : kwNames kws = some ks) (hf : methForm apos pos es kws = true)
    (h : wpAny (model X.prog X.w) A (eval o X.env) (fun ov s1 => wpAny (model X.prog X.w) A (getMethod ov m (do return (← importBound o X.env).getD true)) (fun fx s2 => wpAny (model X.prog X.w) A (callWith pos fx.1 fx.2 (backTo pos (starEach es X.env)) (backToKw pos (keywordEach kws X.env))) Q E s2) E s1) E s) :
    wpAny (model X.prog X.w) A (eval (.Call (.Attribute o m apos) es kws pos) X.env) Q E s := by
  obtain ⟨a, b, c, d⟩ := kw_all (env := X.env) (pos := pos) hks
  unfold methForm at hf
  rw [Bool.and_eq_true] at hf
  rw [arm_eval_Call, recv_base hb]
  refine wpAny_bind (thn h fun ov s1 h1 => wpAny_bind (wpAny_standAt ?_))
  have hke : (backToKw pos (keywordEach kws X.env)).isEmpty = kws.isEmpty := by
    cases kws with
    | nil => rfl
    | cons k r => cases k; rfl
  have hform : methodCallForm (es.length + kws.length) (backTo pos (starEach es X.env)) (backToKw pos (keywordEach kws X.env)) = true := by
    unfold methodCallForm
    rw [all_plain hst, a, hke]
    exact hf.2
  have hpos : methodCallPos true o X.env apos pos = pure pos := by
    unfold methodCallPos
    rw [hf.1]
    rfl
  unfold methodCall
  rw [hform]
  refine wpAny_bind (wpAny_holding ?_)
  unfold calleeOf
  rw [if_pos rfl]
  exact thn h1 fun fx s2 h2 => wpAny_bind (wpAny_of_eq hpos h2)
section
variable {gb : Bool} {g : G} {X : Cx} {W : WX} {k : Nat} {ks : List Str} {n : Nat}
theorem se_meth {mt : Nat → Option FnI} {a : Expr} {ma : ME} {m : Str} {apos pos : Pos} {es : List Expr} {kws : List Keyword} {ms kms : List ME} (hM : MtK gb g X mt m k (n + 1) ks) (hr : Room k X.A) (gd : gb = true → X.A.guards = some []) (tk : Takes X W)
    (hb : recvOk a = true) (hf : methForm apos pos es kws = true) (hks : kwNames kws = some ks) (hself : SE g X W a ma) (ha : SAs g X W es ms) (hkw : SK g X W kws (mArgs kms)) :
    SE g X W (.Call (.Attribute a m apos) es kws pos) (mMeth m mt n ks ma ms kms) := by
  refine ⟨fun F as ρ μ σ H Q r μ' h sr er post pins s I => ?_⟩
  refine meth_tree hb ha.plain hks hf ?_
  have key : wpE X a σ H fun x H1 => ∃ p C dx fs f, x = .ref p ∧ H1 p = some (.ins C dx fs) ∧ Cls X.K C ∧ Meth X.K C m f ∧ fs.lookup m = none ∧
      ∀ (st : Shared), Inv X pins σ H1 st → wpAny (model X.prog X.w) X.A (callWith pos (.ref f) [.ref p] (backTo pos (starEach es X.env)) (backToKw pos (keywordEach kws X.env))) (EP X pins σ Q) X.xe st := by
    refine hself.then_ (show andThen _ _ = some (r, μ') from h) sr er (fun x e => by subst e; exact post) fun s0 μ0 F0 as0 v0 H0 h0 x0 sr0 er0 ra0 => ?_
    obtain ⟨F0', x0', sr0', rs0⟩ := root_ok sr0 ra0
    have er0' := er0.mono x0'
    split at h0
    · rename_i c hc
      split at h0
      · rename_i fi hfi
        obtain ⟨f, hF, cl, me, hno⟩ := hM.ok c fi hfi
        -- where it stands
        have hat : ∃ p dx fs, v0 = .ref p ∧ H0 p = some (.ins (g.cad c) dx fs) ∧ fs.lookup m = none ∧ True := by
          cases s0 with
          | fr ds => cases hc
          | pot j is ds => cases hc
          | any => cases hc
          | val d =>
            cases d with
            | obj c' fs =>
              cases hc
              obtain ⟨p, dx, vs, rfl, e2, e3, e4⟩ := vr_obj sr0' (.inr (show Rep g F0' (.obj c fs) v0 from rs0))
              exact ⟨p, dx, _, rfl, e2, lookup_zip_none hno, trivial⟩
            | _ => cases hc
          | cell j =>
            obtain ⟨p, h2, rfl⟩ := (show ∃ p, as0[j]? = some p ∧ v0 = .ref p from rs0)
            unfold clsOf at hc
            simp only [rt] at hc
            cases q : μ0[j]? with
            | none => rw [q] at hc; cases hc
            | some cc =>
              rw [q] at hc
              cases cc with
              | ins c' fs =>
                simp only at hc
                split at hc
                · rename_i hn
                  cases hc
                  obtain ⟨_, dx, vs, h3, h4, h5⟩ := sr0'.cells j p _ h2 q
                  exact ⟨p, dx, _, rfl, h3, lookup_map_none (Option.isNone_iff_eq_none.mp hn), trivial⟩
                · cases hc
              | bk c' fs =>
                simp only at hc
                split at hc
                · rename_i hn
                  cases hc
                  obtain ⟨_, dx, bs, h3, h4, h5⟩ := sr0'.cells j p _ h2 q
                  exact ⟨p, dx, _, rfl, h3, lookup_bk_none (Option.isNone_iff_eq_none.mp hn), trivial⟩
                · cases hc
              | _ => cases hc
        obtain ⟨p, dx, fs, rfl, e2, e3, _⟩ := hat
        refine ⟨p, _, dx, fs, f, rfl, e2, cl, me, e3, fun st I0 => ?_⟩
        refine callW (first := [.ref p]) (f := fun ss ts μ2 => callF fi (n + 1) ks (rt s0 :: ss) ts μ2) I0 me.kp hks ha hkw h0 sr0' er0' (fun x e => by subst e; exact PErr.ext (x0.trans x0') post) fun ss ts μ2 F2 as2 vs zs H2 h2 x2 sr2 er2 rs2 rz2 st us ws I2 ru rz => ?_
        exact callF_run (vs := .ref p :: vs) hF hr gd tk h2 sr2 (.cons (rs0.mono x2) rs2) rz2 (PostE.ext ((x0.trans x0').trans x2) post) st (.ref p :: us) ws I2 (.cons rfl ru) rz
      · cases h0
    · cases h0
  refine thn (key pins s I) fun ov s1 hq => ?_
  obtain ⟨x, H1, I1, rx, p, C, dx, fs, f, ex, e2, cl, me, e3, q⟩ := hq
  subst ex
  obtain rfl : ov = Value.ref p := rx
  exact getmeth_ok I1 e2 cl me e3 (q s1 I1)
end
end Sz
set_option Elab.async false
set_option linter.all false
set_option maxRecDepth 100000
set_option maxHeartbeats 4000000
namespace Sz
open PySem PySem.Spec L2
def PostS (g : G) (W : WX) (F : Hp) (as : List Addr) (D : Ends) : Fl → En → Sto → Prop
  | .nx, ρ', μ' => ∀ F' as' σ' H', Ext F as F' as' → SR g F' as' μ' H' → ER g F' as' ρ' σ' → D.nx σ' H'
  | .bk, ρ', μ' => ∀ F' as' σ' H', Ext F as F' as' → SR g F' as' μ' H' → ER g F' as' ρ' σ' → D.bk σ' H'
  | .ct, ρ', μ' => ∀ F' as' σ' H', Ext F as F' as' → SR g F' as' μ' H' → ER g F' as' ρ' σ' → D.ct σ' H'
  | .rt s, ρ', μ' => ∀ F' as' v H', Ext F as F' as' → SR g F' as' μ' H' → RA g F' as' H' s v → D.rt v H'
  | .ex x, ρ', μ' => ∀ F' as' σ' cls d H', Ext F as F' as' → SR g F' as' μ' H' → ER g F' as' ρ' σ' → RX g F' H' x cls d → W cls d σ' H'
structure SS (g : G) (X : Cx) (W : WX) (st : Stmt) (m : MS) : Prop where
  run : ∀ (F : Hp) (as : List Addr) (ρ : En) (μ : Sto) (σ : L2.St) (H : Hp) (D : Ends) (fl : Fl) (ρ' : En) (μ' : Sto), m ρ μ = some (fl, ρ', μ') → SR g F as μ H → ER g F as ρ σ → PostS g W F as D fl ρ' μ' → wpS X st D σ H
structure SB (g : G) (X : Cx) (W : WX) (sts : List Stmt) (m : MS) : Prop where
  run : ∀ (F : Hp) (as : List Addr) (ρ : En) (μ : Sto) (σ : L2.St) (H : Hp) (D : Ends) (fl : Fl) (ρ' : En) (μ' : Sto), m ρ μ = some (fl, ρ', μ') → SR g F as μ H → ER g F as ρ σ → PostS g W F as D fl ρ' μ' → wpB X sts D σ H
section
variable {g : G} {X : Cx} {W : WX} {F F1 : Hp} {as as1 : List Addr} {D : Ends} {fl : Fl} {ρ : En} {μ : Sto} {σ : L2.St}
theorem PostS.ext (x : Ext F as F1 as1) (h : PostS g W F as D fl ρ μ) : PostS g W F1 as1 D fl ρ μ := by
  cases fl with
  | nx => exact fun F' as' σ' H' e => h F' as' σ' H' (x.trans e)
  | bk => exact fun F' as' σ' H' e => h F' as' σ' H' (x.trans e)
  | ct => exact fun F' as' σ' H' e => h F' as' σ' H' (x.trans e)
  | rt s => exact fun F' as' v H' e => h F' as' v H' (x.trans e)
  | ex y => exact fun F' as' σ' cls d H' e => h F' as' σ' cls d H' (x.trans e)
theorem PostS.err {x : Ex} (er : ER g F as ρ σ) (h : PostS g W F as D (.ex x) ρ μ) : PErr g W F as σ x μ := fun F' as' cls d H' e sr rx => h F' as' σ cls d H' e sr (er.mono e) rx
end
def sNil : MS := fun ρ μ => some (.nx, ρ, μ)
def sSeq (a b : MS) : MS := fun ρ μ => match a ρ μ with
  | some (.nx, ρ1, μ1) => b ρ1 μ1
  | r => r
section
variable {g : G} {X : Cx} {W : WX} {st : Stmt} {sts : List Stmt} {a b : MS} {pos : Pos}
theorem sb_nil : SB g X W [] sNil := by
  refine ⟨fun F as ρ μ σ H D fl ρ' μ' h sr er post => wB pss_nil ?_⟩
  cases h
  exact post F as σ H .refl sr er
theorem sb_cons (h1 : SS g X W st a) (h2 : SB g X W sts b) : SB g X W (st :: sts) (sSeq a b) := by
  refine ⟨fun F as ρ μ σ H D fl ρ' μ' h sr er post => wB (pss_cons ps_wp pss_wp) ?_⟩
  show wpS X st { D with nx := wpB X sts D } σ H
  unfold sSeq at h
  split at h
  · rename_i ρ1 μ1 h3
    exact h1.run F as ρ μ σ H _ .nx ρ1 μ1 h3 sr er fun F' as' σ' H' e sr' er' => h2.run F' as' ρ1 μ1 σ' H' D fl ρ' μ' h sr' er' (post.ext e)
  · rename_i hne
    refine h1.run F as ρ μ σ H _ fl ρ' μ' h sr er ?_
    cases fl with
    | nx => exact absurd h (hne _ _)
    | bk => exact post
    | ct => exact post
    | rt s => exact post
    | ex x => exact post
end
/-- an expression, then what follows -/
def exThen {α : Type} (r : Option (Except Ex α × Sto)) (ρ : En) (f : α → Sto → Option (Fl × En × Sto)) : Option (Fl × En × Sto) := match r with
  | none => none
  | some (.error x, μ) => some (.ex x, ρ, μ)
  | some (.ok s, μ) => f s μ
section
variable {g : G} {X : Cx} {W : WX} {e : Expr} {m : ME} {F : Hp} {as : List Addr} {ρ ρ' : En} {μ μ' : Sto} {σ : L2.St} {H : Hp} {D : Ends} {fl : Fl}
theorem exThen_some {α : Type} {r : Option (Except Ex α × Sto)} {f : α → Sto → Option (Fl × En × Sto)} {q : Fl × En × Sto} (h : exThen r ρ f = some q) :
    (∃ x, r = some (.error x, q.2.2) ∧ q.1 = .ex x ∧ q.2.1 = ρ) ∨ ∃ s μ, r = some (.ok s, μ) ∧ f s μ = some q := by
  unfold exThen at h
  match r, h with
  | none, h => cases h
  | some (.error x, μ), h => cases h; exact .inl ⟨x, rfl, rfl, rfl⟩
  | some (.ok s, μ), h => exact .inr ⟨s, μ, rfl, h⟩
theorem SE.st {Q : VK} {f : S → Sto → Option (Fl × En × Sto)} (he : SE g X W e m) (h : exThen (m ρ μ) ρ f = some (fl, ρ', μ')) (sr : SR g F as μ H) (er : ER g F as ρ σ) (post : PostS g W F as D fl ρ' μ')
    (k : ∀ s μ1 F1 as1 v H1, f s μ1 = some (fl, ρ', μ') → Ext F as F1 as1 → SR g F1 as1 μ1 H1 → ER g F1 as1 ρ σ → RA g F1 as1 H1 s v → Q v H1) : wpE X e σ H Q := by
  rcases exThen_some h with ⟨x, h1, h2, h3⟩ | ⟨s, μ1, h1, h2⟩
  · dsimp only at h1 h2 h3
    subst h2 h3
    exact he.run F as ρ' μ σ H Q (.error x) μ' h1 sr er (post.err er)
  · exact he.run F as ρ μ σ H Q (.ok s) μ1 h1 sr er fun F' as' v H' e' r' q => k s μ1 F' as' v H' h2 e' r' (er.mono e') q
theorem STe.st {m : MT} {Q : Bool → Hp → Prop} {f : Bool → Sto → Option (Fl × En × Sto)} (he : STe g X W e m) (h : exThen (m ρ μ) ρ f = some (fl, ρ', μ')) (sr : SR g F as μ H) (er : ER g F as ρ σ) (post : PostS g W F as D fl ρ' μ')
    (k : ∀ b μ1 F1 as1 H1, f b μ1 = some (fl, ρ', μ') → Ext F as F1 as1 → SR g F1 as1 μ1 H1 → ER g F1 as1 ρ σ → Q b H1) : wpT X e σ H Q := by
  rcases exThen_some h with ⟨x, h1, h2, h3⟩ | ⟨s, μ1, h1, h2⟩
  · dsimp only at h1 h2 h3
    subst h2 h3
    exact he.run F as ρ' μ σ H Q (.error x) μ' h1 sr er (post.err er)
  · exact he.run F as ρ μ σ H Q (.ok s) μ1 h1 sr er fun F' as' H' e' r' => k s μ1 F' as' H' h2 e' r' (er.mono e')
end
def sRet (m : ME) : MS := fun ρ μ => exThen (m ρ μ) ρ fun s μ1 => some (.rt s, ρ, μ1)
def sIf (t : MT) (a b : MS) : MS := fun ρ μ => exThen (t ρ μ) ρ fun c μ1 => if c then a ρ μ1 else b ρ μ1
def sExpr (m : ME) : MS := fun ρ μ => exThen (m ρ μ) ρ fun _ μ1 => some (.nx, ρ, μ1)
def notComp : Expr → Bool
  | .ListComp _ _ _ _ => false
  | .SetComp _ _ _ _ => false
  | .DictComp _ _ _ _ _ => false
  | _ => true
theorem swaps_no {e : Expr} {t : Option Expr} {l : Nat} {env : PySem.Env} (h : notComp e = true) : swapsWith e t l env = pure false := by
  cases e <;> first | rfl | (exact absurd (show false = true from h) Bool.false_ne_true)
section
variable {g : G} {X : Cx} {W : WX} {e c : Expr} {m : ME} {t : MT} {a b : List Stmt} {ma mb : MS} {pos : Pos}
theorem ss_ret (he : SE g X W e m) : SS g X W (.Return (some e) pos) (sRet m) := by
  refine ⟨fun F as ρ μ σ H D fl ρ' μ' h sr er post => wS (ps_ret pe_wp) ?_⟩
  refine he.st h sr er post fun s μ1 F1 as1 v H1 h1 x1 sr1 er1 ra1 => ?_
  cases h1
  exact post F1 as1 v H1 x1 sr1 ra1
theorem ss_if (hc : STe g X W c t) (ha : SB g X W a ma) (hb : SB g X W b mb) : SS g X W (.If c a b pos) (sIf t ma mb) := by
  refine ⟨fun F as ρ μ σ H D fl ρ' μ' h sr er post => wS (ps_if pt_wp pss_wp pss_wp) ?_⟩
  refine hc.st h sr er post fun k μ1 F1 as1 H1 h1 x1 sr1 er1 => ?_
  cases k with
  | true => rw [if_pos rfl] at h1 ⊢; exact ha.run F1 as1 ρ μ1 σ H1 D fl ρ' μ' h1 sr1 er1 (post.ext x1)
  | false => rw [if_neg Bool.false_ne_true] at h1 ⊢; exact hb.run F1 as1 ρ μ1 σ H1 D fl ρ' μ' h1 sr1 er1 (post.ext x1)
theorem ss_expr (he : SE g X W e m) (hs : notComp e = true) : SS g X W (.Expr e pos) (sExpr m) := by
  refine ⟨fun F as ρ μ σ H D fl ρ' μ' h sr er post => wS (ps_expr pe_wp (swaps_no hs)) ?_⟩
  refine he.st h sr er post fun s μ1 F1 as1 v H1 h1 x1 sr1 er1 ra1 => ?_
  cases h1
  exact post F1 as1 σ H1 x1 sr1 er1
end
/-- a target's code: what is stored, the slots, the store -/
abbrev MG := S → En → Sto → Option (En × Sto)
abbrev wpG (X : Cx) (tg : Expr) : TG := fun v σ H Q => ∀ (pins : List (Addr × Obj)) (s : Shared) (u : Value), Inv X pins σ H s → RelV v u → wpAny (model X.prog X.w) X.A (assign tg X.env u) (fun _ s' => ∃ σ' H', Inv X pins σ' H' s' ∧ Q σ' H') X.xe s
theorem pg_wp {X : Cx} {tg : Expr} : PG X tg (wpG X tg) := ⟨fun pins s σ H v u Q I r h => h pins s u I r⟩
/-- sl: the slots that it may store to -/
structure SG (g : G) (X : Cx) (tg : Expr) (sl : List Nat) (m : MG) : Prop where
  run : ∀ (F : Hp) (as : List Addr) (ρ : En) (μ : Sto) (σ : L2.St) (H : Hp) (s : S) (v : V) (Q : L2.St → Hp → Prop) (ρ' : En) (μ' : Sto), m s ρ μ = some (ρ', μ') → SR g F as μ H → ER g F as ρ σ → RA g F as H s v →
    (∀ F' as' σ' H', Ext F as F' as' → SR g F' as' μ' H' → ER g F' as' ρ' σ' → (∀ ws : List Nat, (∀ i ∈ sl, i ∈ ws) → wipe σ' ws = wipe σ ws) → Q σ' H') → wpG X tg v σ H Q
theorem wipe_in {σ : L2.St} {i : Nat} : ∀ {vs : List Nat}, i ∈ vs → (wipe σ vs)[i]? = if i < σ.length then some none else none
  | [], h => by cases h
  | v :: vs, h => by
    unfold wipe
    by_cases e : v = i
    · subst e
      by_cases hl : v < σ.length
      · rw [if_pos hl, List.getElem?_set_self (by rw [wipe_length]; exact hl)]
      · rw [if_neg hl, List.getElem?_eq_none (by rw [List.length_set, wipe_length]; omega)]
    · rw [List.getElem?_set_ne e]
      exact wipe_in (by
        rcases List.mem_cons.mp h with z | z
        · exact absurd z.symm e
        · exact z)
theorem wipe_set {σ : L2.St} {i : Nat} {x : Option V} {ws : List Nat} (h : i ∈ ws) : wipe (σ.set i x) ws = wipe σ ws := by
  apply List.ext_getElem?
  intro j
  by_cases hj : j ∈ ws
  · rw [wipe_in hj, wipe_in hj, List.length_set]
  · rw [wipe_out hj, wipe_out hj]
    exact List.getElem?_set_ne (show i ≠ j from fun z => hj (by rw [← z]; exact h))
/-- a thing made its owner's: a new list becomes a cell, if the name is one that is changed -/
def own (fl : Bool) (s : S) (μ : Sto) : S × Sto := match s, fl with
  | .fr ds, true => (.cell μ.length, μ ++ [.lst ds])
  | .pot none is ds, true => (.cell (μ ++ [C.lst is]).length, μ ++ [C.lst is] ++ [C.pot μ.length ds])
  | s, _ => (rt s, μ)
theorem own_ok {g : G} {F : Hp} {as : List Addr} {μ : Sto} {H : Hp} {s : S} {v : V} (fl : Bool) (sr : SR g F as μ H) (h : RA g F as H s v) : ∃ F' as', Ext F as F' as' ∧ SR g F' as' (own fl s μ).2 H ∧ RS g F' as' (own fl s μ).1 v := by
  have plain : (own fl s μ = (rt s, μ)) → ∃ F' as', Ext F as F' as' ∧ SR g F' as' (own fl s μ).2 H ∧ RS g F' as' (own fl s μ).1 v := fun e => by
    obtain ⟨F', x, r, q⟩ := root_ok sr h
    rw [e]
    exact ⟨F', as, x, r, q⟩
  cases s with
  | val d => exact plain rfl
  | cell k => exact plain rfl
  | fr ds =>
    cases fl with
    | false => exact plain rfl
    | true =>
      obtain ⟨p, vs, e1, e2, e3, e4, e5⟩ := (show ∃ p vs, v = .ref p ∧ H p = some (.lst vs) ∧ F p = none ∧ p ∉ as ∧ Reps g F ds vs from h)
      obtain ⟨r, x⟩ := sr.push (c := .lst ds) e2 e4 ⟨e3, vs, e2, e5⟩
      exact ⟨F, as ++ [p], x, r, p, by rw [← sr.len, List.getElem?_append_right (Nat.le_refl _), Nat.sub_self]; rfl, e1⟩
  | any => exact plain rfl
  | pot j is ds =>
    cases j with
    | some j => exact plain rfl
    | none =>
      cases fl with
      | false => exact plain rfl
      | true =>
        obtain ⟨p, q, vs, us, e1, e2, e3, e4, e5, e6, e7, e8, e9, e10⟩ := (show ∃ p q vs us, v = .ref p ∧ H p = some (.lst (.ref q :: us)) ∧ F p = none ∧ p ∉ as ∧ H q = some (.lst vs) ∧ F q = none ∧ q ∉ as ∧ p ≠ q ∧ Reps g F is vs ∧ Reps g F ds us from h)
        obtain ⟨r1, x1⟩ := sr.push (c := .lst is) e5 e7 ⟨e6, vs, e5, e9⟩
        have e4' : p ∉ as ++ [q] := fun hm => (List.mem_append.mp hm).elim e4 (fun z => e8 (List.mem_singleton.mp z))
        obtain ⟨r2, x2⟩ := r1.push (c := .pot μ.length ds) e2 e4' ⟨e3, q, us, by rw [← sr.len, List.getElem?_append_right (Nat.le_refl _), Nat.sub_self]; rfl, e2, e10⟩
        exact ⟨F, as ++ [q] ++ [p], x1.trans x2, r2, p, by rw [← r1.len, List.getElem?_append_right (Nat.le_refl _), Nat.sub_self]; rfl, e1⟩
def gNm (i : Nat) (fl : Bool) : MG := fun s ρ μ => some (ρ.set i (some (own fl s μ).1), (own fl s μ).2)
def gVals : List MG → List D → En → Sto → Option (En × Sto)
  | [], [], ρ, μ => some (ρ, μ)
  | t :: ts, d :: ds, ρ, μ => match t (.val d) ρ μ with
    | some (ρ1, μ1) => gVals ts ds ρ1 μ1
    | none => none
  | _, _, _, _ => none
def gTu (ts : List MG) : MG := fun s ρ μ => match vw μ s with
  | some (.tup ds) => gVals ts ds ρ μ
  | some (.lst ds) => gVals ts ds ρ μ
  | _ => none
/-- several targets -/
inductive SGs (g : G) (X : Cx) : List Expr → List Nat → List MG → Prop
  | nil : SGs g X [] [] []
  | cons {e : Expr} {es : List Expr} {sl sl' : List Nat} {t : MG} {ts : List MG} (hs : notStar e = true) (h : SG g X e sl t) (r : SGs g X es sl' ts) : SGs g X (e :: es) (sl ++ sl') (t :: ts)
theorem assignEach_cons {e : Expr} {es : List Expr} {env : PySem.Env} (h : notStar e = true) : assignEach (e :: es) env = (false, assign e env) :: assignEach es env := by
  cases e <;> first | rfl | (exact absurd (show false = true from h) Bool.false_ne_true)
section
variable {g : G} {X : Cx} {pos : Pos}
theorem sg_name {i : Nat} {x : Str} {fl : Bool} (hN : X.N.Nodup) (hi : X.N[i]? = some x) (hx : Loc X.env.scope x) (hf : X.fn x = true ∨ X.env.scope.names.lookup x = some .local) : SG g X (.Name x pos) [i] (gNm i fl) := by
  refine ⟨fun F as ρ μ σ H s v Q ρ' μ' h sr er ra k pins st u I ru => ?_⟩
  cases h
  obtain ⟨F', as', x', sr', rs⟩ := own_ok fl sr ra
  exact (pg_name hN hi hx hf).run pins st σ H v u Q I ru (k F' as' _ H x' sr' ((er.mono x').set rs) fun ws hw => wipe_set (hw i List.mem_cons_self))
abbrev wpGs (X : Cx) (ts : List Expr) : TGs := fun vs σ H Q => ∀ (pins : List (Addr × Obj)) (s : Shared) (us : List Value), Inv X pins σ H s → Vals vs us → wpAny (model X.prog X.w) X.A (assignInOrder ((assignEach ts X.env).map (·.2)) us) (fun _ s' => ∃ σ' H', Inv X pins σ' H' s' ∧ Q σ' H') X.xe s
theorem pgs_wp {ts : List Expr} : PGs X ts (wpGs X ts) := ⟨fun pins s σ H vs us Q I r h => h pins s us I r⟩
theorem sgs_run {es : List Expr} {sl : List Nat} {ts : List MG} (h : SGs g X es sl ts) : ∀ (F : Hp) (as : List Addr) (ρ : En) (μ : Sto) (σ : L2.St) (H : Hp) (ds : List D) (vs : List V) (Q : L2.St → Hp → Prop) (ρ' : En) (μ' : Sto), gVals ts ds ρ μ = some (ρ', μ') → SR g F as μ H → ER g F as ρ σ → Reps g F ds vs →
    (∀ F' as' σ' H', Ext F as F' as' → SR g F' as' μ' H' → ER g F' as' ρ' σ' → (∀ ws : List Nat, (∀ i ∈ sl, i ∈ ws) → wipe σ' ws = wipe σ ws) → Q σ' H') → wpGs X es vs σ H Q := by
  induction h with
  | nil =>
    intro F as ρ μ σ H ds vs Q ρ' μ' h sr er r k
    cases ds with
    | cons _ _ => cases h
    | nil =>
      cases h
      rw [Reps.nil_iff.mp r]
      exact fun pins s us I ru => pgs_nil.run pins s σ H [] us Q I ru ⟨rfl, k F as σ H .refl sr er fun _ _ => rfl⟩
  | @cons e es sl sl' t ts hs he hr ih =>
    intro F as ρ μ σ H ds vs Q ρ' μ' h sr er r k
    cases ds with
    | nil => cases h
    | cons d ds =>
      unfold gVals at h
      split at h
      · rename_i ρ1 μ1 h1
        obtain ⟨v, r', rfl, r1, r2⟩ := Reps.cons_iff.mp r
        refine fun pins s us I ru => (pgs_cons (pg_wp (X := X) (tg := e)) (pgs_wp (X := X) (ts := es)) (by rw [assignEach_cons hs]; rfl)).run pins s σ H (v :: r') us Q I ru ⟨v, r', rfl, ?_⟩
        exact he.run F as ρ μ σ H (.val d) v _ ρ1 μ1 h1 sr er r1 fun F1 as1 σ1 H1 x1 sr1 er1 w1 => ih F1 as1 ρ1 μ1 σ1 H1 ds r' Q ρ' μ' h sr1 er1 (r2.mono x1.1) fun F' as' σ' H' x' sr' er' w' => k F' as' σ' H' (x1.trans x') sr' er' fun ws hw => (w' ws fun i hi => hw i (List.mem_append_right _ hi)).trans (w1 ws fun i hi => hw i (List.mem_append_left _ hi))
      · cases h
theorem sgs_each {es : List Expr} {sl : List Nat} {ts : List MG} (h : SGs g X es sl ts) : (assignEach es X.env).findIdx? (·.1) = none ∧ (assignEach es X.env).length = ts.length := by
  induction h with
  | nil => exact ⟨rfl, rfl⟩
  | cons hs _ _ ih =>
    rw [assignEach_cons hs]
    refine ⟨?_, by rw [List.length_cons, List.length_cons, ih.2]⟩
    rw [List.findIdx?_cons]
    simp only [Bool.false_eq_true, if_false, ih.1, Option.map_none]
theorem gVals_len : ∀ {ts : List MG} {ds : List D} {ρ : En} {μ : Sto} {q : En × Sto}, gVals ts ds ρ μ = some q → ds.length = ts.length
  | [], [], _, _, _, _ => rfl
  | [], _ :: _, _, _, _, h => by cases h
  | _ :: _, [], _, _, _, h => by cases h
  | t :: ts, d :: ds, ρ, μ, q, h => by
    unfold gVals at h
    split at h
    · rw [List.length_cons, List.length_cons, gVals_len h]
    · cases h
theorem sg_tup {es : List Expr} {sl : List Nat} {ts : List MG} {k : Nat} (hg : g.K = X.K) (hc : X.calm = true) (hs : SGs g X es sl ts) : SG g X (.Tuple es k pos) sl (gTu ts) := by
  refine ⟨fun F as ρ μ σ H s v Q ρ' μ' h sr er ra kk pins st u I ru => ?_⟩
  obtain ⟨h1, h2⟩ := sgs_each hs
  unfold gTu at h
  split at h
  · rename_i ds hv
    obtain ⟨a, vs, rfl, e1, e2⟩ := vr_tup sr (view_ra sr ra hv)
    exact (pg_tup hc (pgs_wp (X := X) (ts := es)) h2 h1).run pins st σ H _ u Q I ru ⟨a, vs, rfl, hg ▸ e1, by rw [e2.length]; exact gVals_len h, sgs_run hs F as ρ μ σ H ds vs Q ρ' μ' h sr er e2 kk⟩
  · rename_i ds hv
    obtain ⟨a, vs, rfl, e1, e2⟩ := vr_lst sr (view_ra sr ra hv)
    exact (pg_lst hc (pgs_wp (X := X) (ts := es)) h2 h1).run pins st σ H _ u Q I ru ⟨a, vs, rfl, SqL.of e1, by rw [e2.length]; exact gVals_len h, sgs_run hs F as ρ μ σ H ds vs Q ρ' μ' h sr er e2 kk⟩
  · cases h
end
def sAsg (t : MG) (m : ME) : MS := fun ρ μ => exThen (m ρ μ) ρ fun s μ1 => match t s ρ μ1 with
  | some (ρ2, μ2) => some (.nx, ρ2, μ2)
  | none => none
section
variable {g : G} {X : Cx} {W : WX} {e : Expr} {m : ME} {pos pos' : Pos}
theorem ss_set {i : Nat} {x : Str} {fl : Bool} (hN : X.N.Nodup) (hi : X.N[i]? = some x) (hx : Loc X.env.scope x) (hf : X.fn x = true ∨ X.env.scope.names.lookup x = some .local) (hs : swapsWith e (some (.Name x pos')) pos.line X.env = pure false) (he : SE g X W e m) :
    SS g X W (.Assign [.Name x pos'] e pos) (sAsg (gNm i fl) m) := by
  refine ⟨fun F as ρ μ σ H D fl' ρ' μ' h sr er post => wS (ps_set hN hi hx pe_wp hs hf) ?_⟩
  refine he.st h sr er post fun s μ1 F1 as1 v H1 h1 x1 sr1 er1 ra1 => ?_
  obtain ⟨F2, as2, x2, sr2, rs2⟩ := own_ok fl sr1 ra1
  cases h1
  exact post F2 as2 _ H1 (x1.trans x2) sr2 ((er1.mono x2).set rs2)
theorem ss_asgT {tg : Expr} {sl : List Nat} {t : MG} (ht : SG g X tg sl t) (hs : swapsWithSole [tg] e pos.line X.env = pure false) (hw : swappedStores [tg] e X.env = pure none) (hst : notStar tg = true) (he : SE g X W e m) :
    SS g X W (.Assign [tg] e pos) (sAsg t m) := by
  refine ⟨fun F as ρ μ σ H D fl' ρ' μ' h sr er post => wS (ps_asg pe_wp pg_wp hs hw (by rw [assignEach_cons hst]; rfl)) ?_⟩
  refine he.st h sr er post fun s μ1 F1 as1 v H1 h1 x1 sr1 er1 ra1 => ?_
  split at h1
  · rename_i ρ2 μ2 h2
    cases h1
    exact ht.run F1 as1 ρ μ1 σ H1 s v _ ρ' μ' h2 sr1 er1 ra1 fun F' as' σ' H' x' sr' er' _ => post F' as' σ' H' (x1.trans x') sr' er'
  · cases h1
end
/-- several values, each made its name's own -/
def mOwns : List (Bool × ME) → MA
  | [] => fun _ μ => some (.ok [], μ)
  | (fl, m) :: ms => fun ρ μ => andThen (m ρ μ) fun s μ1 => andThen (mOwns ms ρ (own fl s μ1).2) fun ss μ2 => some (.ok ((own fl s μ1).1 :: ss), μ2)
section
variable {g : G} {X : Cx} {W : WX} {e : Expr} {es : List Expr} {m : ME} {fl : Bool} {ms : List (Bool × ME)}
theorem so_nil : SA g X W [] (mOwns []) := sa_nil
theorem so_cons (hn : notStar e = true) (h1 : SE g X W e m) (h2 : SA g X W es (mOwns ms)) : SA g X W (e :: es) (mOwns ((fl, m) :: ms)) := by
  refine ⟨fun F as ρ μ σ H Q r μ' h sr er post => wA (pa_cons pe_wp pa_wp (starEach_cons hn)) ?_⟩
  refine h1.then_ (show andThen _ _ = some (r, μ') from h) sr er (fun x e => by subst e; exact post) fun s1 μ1 F1 as1 v1 H1 h3 x1 sr1 er1 ra1 => ?_
  obtain ⟨F1', as1', x1', sr1', rs1⟩ := own_ok fl sr1 ra1
  refine h2.then_ h3 sr1' (er1.mono x1') (fun x e => by subst e; exact PErr.ext (x1.trans x1') post) fun ss μ2 F2 as2 vs H2 h4 x2 sr2 er2 rs2 => ?_
  cases h4
  exact post F2 as2 _ H2 ((x1.trans x1').trans x2) sr2 (.cons (rs1.mono x2) rs2)
end
def sPar2 (i j : Nat) (ms : List (Bool × ME)) : MS := fun ρ μ => exThen (mOwns ms ρ μ) ρ fun ss μ1 => match ss with
  | [s, t] => some (.nx, (ρ.set i (some s)).set j (some t), μ1)
  | _ => none
section
variable {g : G} {X : Cx} {W : WX} {F : Hp} {as : List Addr} {ρ ρ' : En} {μ μ' : Sto} {σ : L2.St} {H : Hp} {D : Ends} {fl : Fl}
theorem SA.st {es : List Expr} {m : MA} {Q : List V → Hp → Prop} {f : List S → Sto → Option (Fl × En × Sto)} (he : SA g X W es m) (h : exThen (m ρ μ) ρ f = some (fl, ρ', μ')) (sr : SR g F as μ H) (er : ER g F as ρ σ) (post : PostS g W F as D fl ρ' μ')
    (k : ∀ ss μ1 F1 as1 vs H1, f ss μ1 = some (fl, ρ', μ') → Ext F as F1 as1 → SR g F1 as1 μ1 H1 → ER g F1 as1 ρ σ → RSs g F1 as1 ss vs → Q vs H1) : wpA X es σ H Q := by
  rcases exThen_some h with ⟨x, h1, h2, h3⟩ | ⟨s, μ1, h1, h2⟩
  · dsimp only at h1 h2 h3
    subst h2 h3
    exact he.run F as ρ' μ σ H Q (.error x) μ' h1 sr er (post.err er)
  · exact he.run F as ρ μ σ H Q (.ok s) μ1 h1 sr er fun F' as' v H' e' r' q => k s μ1 F' as' v H' h2 e' r' (er.mono e') q
end
section
variable {g : G} {X : Cx} {W : WX}
theorem ss_par2 {i j : Nat} {x y : Str} {a b : Expr} {ms : List (Bool × ME)} {px py pt pos : Pos} {kt k2 pt2} (hc : X.calm = true) (hN : X.N.Nodup) (hi : X.N[i]? = some x) (hj : X.N[j]? = some y) (hij : i ≠ j)
    (hx : X.env.scope.names.lookup x = some .local) (hy : X.env.scope.names.lookup y = some .local) (ha : SA g X W [a, b] (mOwns ms))
    (hw : swappedStores [.Tuple [.Name x px, .Name y py] kt pt] (.Tuple [a, b] k2 pt2) X.env = pure (some [x, y])) :
    SS g X W (.Assign [.Tuple [.Name x px, .Name y py] kt pt] (.Tuple [a, b] k2 pt2) pos) (sPar2 i j ms) := by
  refine ⟨fun F as ρ μ σ H D fl ρ' μ' h sr er post => wS (ps_par hc hN hi hj hij hx hy pa_wp hw) ?_⟩
  refine ha.st h sr er post fun ss μ1 F1 as1 vs H1 h1 x1 sr1 er1 rs1 => ?_
  split at h1
  · rename_i s t
    cases h1
    cases rs1 with
    | cons r1 r2 => cases r2 with
      | cons r2 r3 =>
        cases r3
        exact ⟨_, _, rfl, post F1 as1 _ H1 x1 sr1 ((er1.set r1).set r2)⟩
  · cases h1
end
def starB : Expr → Bool
  | .Starred _ _ => true
  | _ => false
def nameF (sc : Scope) (line : Nat) : Expr → Option Str
  | .Name id pos => if sc.names.lookup id == some .local && pos.line == line then some id else none
  | _ => none
/-- what swappedStores tells of two tuples written out, where it can be told -/
def swapOf (sc : Scope) (ts vs : List Expr) : Option (Option (List Str)) :=
  if (!(ts.length == 2 || ts.length == 3) || vs.length != ts.length) = true then some none else
  if vs.any starB = true then some none else
  if ((ts.filterMap (nameF sc ((ts.head?.map (·.pos.line)).getD 0))).length != ts.length || (ts.filterMap (nameF sc ((ts.head?.map (·.pos.line)).getD 0))).eraseDups.length != (ts.filterMap (nameF sc ((ts.head?.map (·.pos.line)).getD 0))).length) = true then some none else
  if vs.all (foldedForSure 8) = true then some none else
  if vs.all (constantsAlone 8) = true then none else some (some (ts.filterMap (nameF sc ((ts.head?.map (·.pos.line)).getD 0))))
theorem swapOf_ok {sc : Scope} {env : PySem.Env} {ts vs : List Expr} {kt : Nat} {pt : Pos} {k2 : Nat} {pt2 : Pos} {r : Option (List Str)} (hk : env.scope.kind = .function) (hs : env.scope = sc) (h : swapOf sc ts vs = some r) :
    swappedStores [.Tuple ts kt pt] (.Tuple vs k2 pt2) env = pure r := by
  have hb : env.blockKind = .function := by unfold PySem.Env.blockKind; rw [hk]; rfl
  have hkf : ∀ id, env.kindOf id = sc.names.lookup id := fun id => by rw [← hs]; rfl
  have eT : ∀ (f : Expr → Bool), (∀ x, f x = starB x) → vs.any f = vs.any starB := fun f hf => congrArg (fun f => List.any vs f) (funext hf)
  have eN : ∀ (f : Expr → Option Str), (∀ x, f x = nameF sc ((ts.head?.map (·.pos.line)).getD 0) x) → ts.filterMap f = ts.filterMap (nameF sc ((ts.head?.map (·.pos.line)).getD 0)) := fun f hf => congrArg (fun f => List.filterMap f ts) (funext hf)
  unfold swapOf at h
  unfold swappedStores
  simp only [hb, hkf, bne_self_eq_false, Bool.or_false]
  rw [eT _ (by intro x; cases x <;> rfl), eN _ (by intro x; cases x <;> rfl)]
  split at h
  · rename_i c1
    cases h
    rw [if_pos c1]
  · rename_i c1
    rw [if_neg c1]
    split at h
    · rename_i c2
      cases h
      rw [if_pos c2]
    · rename_i c2
      rw [if_neg c2]
      split at h
      · rename_i c3
        cases h
        rw [if_pos c3]
      · rename_i c3
        rw [if_neg c3]
        split at h
        · rename_i c4
          cases h
          rw [if_pos c4]
        · rename_i c4
          rw [if_neg c4]
          split at h
          · cases h
          · rename_i c5
            rw [if_neg c5]
            cases h
            rfl
end Sz
set_option Elab.async false
set_option linter.all false
set_option maxRecDepth 100000
set_option maxHeartbeats 4000000
namespace Sz
open PySem PySem.Spec L2
abbrev MI := En → Sto → Option (Except Ex (List D) × Sto)
abbrev wpI (X : Cx) (tg iter : Expr) : TI := fun σ H R => ∀ (pins : List (Addr × Obj)) (s : Shared), Inv X pins σ H s → wpAny (model X.prog X.w) X.A (eval iter X.env) (fun v s1 => wpAny (model X.prog X.w) X.A (pyIter v) (PIE X pins σ tg R) X.xe s1) X.xe s
theorem pi_wp {X : Cx} {tg iter : Expr} : PI X tg iter (wpI X tg iter) := ⟨fun pins s σ H R I h => h pins s I⟩
theorem wI {X : Cx} {tg iter : Expr} {t : TI} {σ : L2.St} {H : Hp} {R : It → Hp → Prop} (h : PI X tg iter t) (q : t σ H R) : wpI X tg iter σ H R := fun pins s I => h.run pins s σ H R I q
/-- the walk tells these things, one by one -/
def JOk (g : G) (J : It) (F0 : Hp) (ds : List D) : Prop := ∀ (F : Hp) (as : List Addr) (μ : Sto) (H : Hp), Same F0 F → SR g F as μ H → ∀ i : Nat, (i = ds.length → J.stop i H) ∧
  ∀ d, ds[i]? = some d → J.go i H ∧ ∀ x H', J.yld i H x H' → ∃ F', Ext F as F' as ∧ SR g F' as μ H' ∧ Rep g F' d x
def PostI (g : G) (W : WX) (F : Hp) (as : List Addr) (σ : L2.St) (R : It → Hp → Prop) : Except Ex (List D) → Sto → Prop
  | .ok ds, μ' => ∀ F' as' H' J, Ext F as F' as' → SR g F' as' μ' H' → JOk g J F' ds → R J H'
  | .error x, μ' => PErr g W F as σ x μ'
structure SI (g : G) (X : Cx) (W : WX) (tg iter : Expr) (m : MI) : Prop where
  run : ∀ (F : Hp) (as : List Addr) (ρ : En) (μ : Sto) (σ : L2.St) (H : Hp) (R : It → Hp → Prop) (r : Except Ex (List D)) (μ' : Sto), m ρ μ = some (r, μ') → SR g F as μ H → ER g F as ρ σ → PostI g W F as σ R r μ' → wpI X tg iter σ H R
section
variable {X : Cx} {pins : List (Addr × Obj)} {σ : L2.St} {H : Hp} {s : Shared} {tg : Expr} {R : It → Hp → Prop} {E : Value → Shared → Prop}
theorem iter_list {a : Addr} {xs : List V} (I1 : Inv X pins σ H s) (hq : SqL X.K H a xs) (q : R (Itl X.K a) H) : wpAny (model X.prog X.w) X.A (pyIter (.ref a)) (PIE X pins σ tg R) E s := by
  obtain ⟨its, rv, p, hz⟩ := I1.list hq
  refine wpAny_pyIter_list p.isList ?_
  refine ⟨s.heap.objs.size, [s.heap.objs.size], _, _, H, rfl, I1.kept (t' := s.toks) fun b o e => Heap.get?_push_of_some _ e, turn_list a _, ⟨_, Heap.get?_push_size _ rfl, rfl, rfl⟩, fun b hb => ?_, q⟩
  have e : b = s.heap.objs.size := by simpa using hb
  subst e
  exact I1.fpOk (Nat.le_refl _) (I1.hok.fresh (Nat.le_refl _))
theorem iter_tup {a : Addr} {xs : List V} (I1 : Inv X pins σ H s) (hq : SqT X.K H a xs) (q : R (Itt X.K a) H) : wpAny (model X.prog X.w) X.A (pyIter (.ref a)) (PIE X pins σ tg R) E s := by
  obtain ⟨its, rv, p, hz⟩ := I1.tuple hq
  refine wpAny_pyIter_tuple (show s.heap.IsTuple a its.toArray from p) ?_
  refine ⟨s.heap.objs.size, [s.heap.objs.size], _, _, H, rfl, I1.kept (t' := s.toks) fun b o e => Heap.get?_push_of_some _ e, turn_tuple a _, ⟨_, Heap.get?_push_size _ rfl, rfl, rfl⟩, fun b hb => ?_, q⟩
  have e : b = s.heap.objs.size := by simpa using hb
  subst e
  exact I1.fpOk (Nat.le_refl _) (I1.hok.fresh (Nat.le_refl _))
theorem iter_str {x : Str} {t : Tok} (I1 : Inv X pins σ H s) (q : R (Its x) H) : wpAny (model X.prog X.w) X.A (pyIter (.str x t)) (PIE X pins σ tg R) E s := by
  cases ha : x.cps.all (· < 128)
  · exact wpAny_pyIter_wide ha (pi_one (tk := s.toks) I1 _ (turn_str _ x t "str_iterator" (.inr rfl)) ⟨_, Heap.get?_push_size _ rfl, rfl, rfl⟩ q)
  · exact wpAny_pyIter_ascii ha (pi_one (tk := s.toks) I1 _ (turn_str _ x t "str_ascii_iterator" (.inl rfl)) ⟨_, Heap.get?_push_size _ rfl, rfl, rfl⟩ q)
end
section
variable {g : G} {F0 : Hp}
theorem jok_list {a : Addr} {xs : List V} {ds : List D} (h : F0 a = some (.lst xs)) (r : Reps g F0 ds xs) : JOk g (Itl g.K a) F0 ds := by
  intro F as μ H e sr i
  have hs : SqL g.K H a xs := SqL.of (sr.sub _ _ (e _ _ h))
  refine ⟨fun hi => ⟨xs, hs, by rw [r.length, hi]; exact Nat.le_refl _⟩, fun d hd => ?_⟩
  obtain ⟨v, h1, h2⟩ := r.get hd
  refine ⟨⟨xs, v, hs, h1⟩, fun x H' ⟨e1, e2⟩ => ?_⟩
  subst e1
  have := e2 xs hs
  rw [h1] at this
  cases this
  exact ⟨F, .refl, sr, h2.mono e⟩
theorem jok_tup {a : Addr} {xs : List V} {ds : List D} (h : SqT g.K F0 a xs) (r : Reps g F0 ds xs) : JOk g (Itt g.K a) F0 ds := by
  intro F as μ H e sr i
  have hs : SqT g.K H a xs := seqT_mono sr.sub (seqT_mono e h)
  refine ⟨fun hi => ⟨xs, hs, by rw [r.length, hi]; exact Nat.le_refl _⟩, fun d hd => ?_⟩
  obtain ⟨v, h1, h2⟩ := r.get hd
  refine ⟨⟨xs, v, hs, h1⟩, fun x H' ⟨e1, e2⟩ => ?_⟩
  subst e1
  have := e2 xs hs
  rw [h1] at this
  cases this
  exact ⟨F, .refl, sr, h2.mono e⟩
theorem jok_scr {a : Addr} {ns : List Int} (h : SqL g.K F0 a (ns.map V.int)) : JOk g (Itl g.K a) F0 (ns.map .int) := by
  intro F as μ H e sr i
  have hs : SqL g.K H a (ns.map V.int) := sr.sub.seq (e.seq h)
  refine ⟨fun hi => ⟨_, hs, by rw [hi, List.length_map, List.length_map]; exact Nat.le_refl _⟩, fun d hd => ?_⟩
  rw [List.getElem?_map] at hd
  obtain ⟨n, h1, rfl⟩ := Option.map_eq_some_iff.mp hd
  have h2 : (ns.map V.int)[i]? = some (.int n) := by rw [List.getElem?_map, h1]; rfl
  refine ⟨⟨_, _, hs, h2⟩, fun x H' ⟨e1, e2⟩ => ?_⟩
  subst e1
  have := e2 _ hs
  rw [h2] at this
  cases this
  exact ⟨F, .refl, sr, by unfold Rep; rfl⟩
theorem jok_str {x : Str} : JOk g (Its x) F0 (x.cps.toList.map fun c => .str ⟨#[c]⟩) := by
  intro F as μ H e sr i
  refine ⟨fun hi => by rw [hi, List.length_map]; show x.cps.size ≤ x.cps.toList.length; simp, fun d hd => ?_⟩
  rw [List.getElem?_map] at hd
  obtain ⟨c, h1, rfl⟩ := Option.map_eq_some_iff.mp hd
  have h2 : x.cps[i]? = some c := by simpa using h1
  refine ⟨(Array.getElem?_eq_some_iff.mp h2).1, fun y H' ⟨e1, c', e2, e3⟩ => ?_⟩
  subst e1 e3
  rw [h2] at e2
  cases e2
  exact ⟨F, .refl, sr, by unfold Rep; rfl⟩
def rangeD (lo : Int) (n : Nat) : List D := (List.range n).map fun (i : Nat) => .int (lo + i)
theorem jok_range {lo : Int} {n : Nat} : JOk g (Itr lo n) F0 (rangeD lo n) := by
  intro F as μ H e sr i
  unfold rangeD
  refine ⟨fun hi => by rw [hi, List.length_map, List.length_range]; exact Nat.le_refl _, fun d hd => ?_⟩
  rw [List.getElem?_map] at hd
  obtain ⟨k, h1, rfl⟩ := Option.map_eq_some_iff.mp hd
  obtain ⟨h2, h3⟩ := List.getElem?_eq_some_iff.mp h1
  rw [List.length_range] at h2
  rw [List.getElem_range] at h3
  subst h3
  refine ⟨h2, fun y H' ⟨e1, e2⟩ => ?_⟩
  subst e1 e2
  exact ⟨F, .refl, sr, by unfold Rep; rfl⟩
end
/-- the things of a value -/
def itemsOf : D → Option (List D)
  | .lst ds => some ds
  | .tup ds => some ds
  | .scr ns => some (ns.map .int)
  | .str x => some (x.cps.toList.map fun c => .str ⟨#[c]⟩)
  | _ => none
def finI (f : D → Option (List D)) (s : S) (μ : Sto) : Option (Except Ex (List D) × Sto) := match toD μ (rt s) with
  | some (d, μ2) => (match f d with
    | some ds => some (.ok ds, μ2)
    | none => none)
  | none => none
def iVal (m : ME) : MI := fun ρ μ => andThen (m ρ μ) (finI itemsOf)
def inR (i : Int) : Bool := decide (-(2 ^ 62) ≤ i) && decide (i < 2 ^ 62)
def iRange1 (a : ME) : MI := fun ρ μ => andThen (mArgs [a] ρ μ) fun ss μ1 => match vws μ1 ss with
  | some [.int j] => if inR j then some (.ok (rangeD 0 j.toNat), μ1) else none
  | _ => none
section
variable {g : G} {X : Cx} {W : WX} {tg e e2 : Expr} {m m2 : ME} {p pos : Pos}
theorem si_val (hg : g.K = X.K) (he : SE g X W e m) : SI g X W tg e (iVal m) := by
  refine ⟨fun F as ρ μ σ H R r μ' h sr er post pins s I => ?_⟩
  have key : wpE X e σ H fun x H1 => ∀ (s1 : Shared) (v : Value), Inv X pins σ H1 s1 → RelV x v → wpAny (model X.prog X.w) X.A (pyIter v) (PIE X pins σ tg R) X.xe s1 := by
    refine he.then_ (show andThen _ _ = some (r, μ') from h) sr er (fun x e => by subst e; exact post) fun s1 μ1 F1 as1 v H1 h1 x1 sr1 er1 ra1 => ?_
    obtain ⟨F2, x2, sr2, rs2⟩ := root_ok sr1 ra1
    unfold finI at h1
    split at h1
    · rename_i d μ2 hd
      obtain ⟨F3, x3, sr3, r3⟩ := toD_rs sr2 rs2 hd
      split at h1
      · rename_i ds hds
        cases h1
        have fin : ∀ J, JOk g J F3 ds → R J H1 := fun J j => post F3 as1 H1 J ((x1.trans x2).trans x3) sr3 j
        intro st u I1 ru
        unfold itemsOf at hds
        split at hds
        · cases hds
          unfold Rep at r3
          obtain ⟨a, vs, rfl, h3, h4⟩ := r3
          cases ru
          exact iter_list I1 (SqL.of (sr3.sub _ _ h3)) (by rw [← hg]; exact fin _ (jok_list h3 h4))
        · cases hds
          unfold Rep at r3
          obtain ⟨a, vs, rfl, h3, h4⟩ := r3
          cases ru
          exact iter_tup I1 (hg ▸ seqT_mono sr3.sub h3) (by rw [← hg]; exact fin _ (jok_tup h3 h4))
        · cases hds
          unfold Rep at r3
          obtain ⟨a, rfl, h3⟩ := r3
          cases ru
          exact iter_list I1 (hg ▸ sr3.sub.seq h3) (by rw [← hg]; exact fin _ (jok_scr h3))
        · cases hds
          unfold Rep at r3
          subst r3
          obtain ⟨t, rfl⟩ := ru
          exact iter_str I1 (fin _ jok_str)
        · cases hds
      · cases h1
    · cases h1
  exact thn (key pins s I) fun v s1 ⟨x, H1, I1, rx, q⟩ => q s1 v I1 rx
theorem si_range1 (hg : Gl X "range") (hm : X.mg "range" = none) (hn : notStar e = true) (ha : SE g X W e m) : SI g X W tg (.Call (.Name "range" p) [e] [] pos) (iRange1 m) := by
  refine ⟨fun F as ρ μ σ H R r μ' h sr er post => wI (pi_range1 hg hm pa_wp (by rw [starEach_cons hn]; rfl)) ?_⟩
  refine (sa_cons hn ha sa_nil).then_ (show andThen _ _ = some (r, μ') from h) sr er (fun x e => by subst e; exact post) fun ss μ1 F1 as1 vs H1 h1 x1 sr1 er1 rs1 => ?_
  split at h1
  · rename_i j hv
    split at h1
    · rename_i hz
      cases h1
      obtain ⟨v, rfl, h2⟩ := vrs1 (views_rs sr1 rs1 hv)
      cases vr_int h2
      unfold inR at hz
      rw [Bool.and_eq_true, decide_eq_true_eq, decide_eq_true_eq] at hz
      exact ⟨j, rfl, hz.1, hz.2, post F1 as1 H1 _ x1 sr1 jok_range⟩
    · cases h1
  · cases h1
end
def floop (t : MG) (b : MS) : List D → MS
  | [], ρ, μ => some (.nx, ρ, μ)
  | d :: ds, ρ, μ => match t (.val d) ρ μ with
    | none => none
    | some (ρ1, μ1) => match b ρ1 μ1 with
      | some (.nx, ρ2, μ2) => floop t b ds ρ2 μ2
      | some (.ct, ρ2, μ2) => floop t b ds ρ2 μ2
      | some (.bk, ρ2, μ2) => some (.nx, ρ2, μ2)
      | r => r
def sFor (i : MI) (t : MG) (b : MS) : MS := fun ρ μ => exThen (i ρ μ) ρ fun ds μ1 => floop t b ds ρ μ1
def notSet : Expr → Bool
  | .Set _ _ _ => false
  | _ => true
theorem notSet_ok {e : Expr} {env : PySem.Env} (h : notSet e = true) : ∀ x, foldedSetIterable e env x = pure x := by
  cases e <;> first | (exact fun _ => rfl) | (exact absurd (show false = true from h) Bool.false_ne_true)
section
variable {g : G} {X : Cx} {W : WX} {tg iter : Expr} {body : List Stmt} {mi : MI} {t : MG} {b : MS} {pos : Pos}
theorem ss_for (hp : PassesOwn (model X.prog X.w) X.A X.env X.xe) (hc : X.calm = true) (hi : SI g X W tg iter mi) {sl : List Nat} (hg : SG g X tg sl t) (hb : SB g X W body b) (hs : notSet iter = true) : SS g X W (.For tg iter body [] pos) (sFor mi t b) := by
  refine ⟨fun F as ρ μ σ H D fl ρ' μ' h sr er post => wS (ps_for hp hc pi_wp pg_wp pss_wp (notSet_ok hs)) ?_⟩
  show wpI X tg iter σ H _
  rcases exThen_some (show exThen _ _ _ = some (fl, ρ', μ') from h) with ⟨x, h1, h2, h3⟩ | ⟨ds, μ1, h1, h2⟩
  · dsimp only at h1 h2 h3
    subst h2 h3
    exact hi.run F as ρ' μ σ H _ (.error x) μ' h1 sr er (post.err er)
  · refine hi.run F as ρ μ σ H _ (.ok ds) μ1 h1 sr er fun F1 as1 H1 J x1 sr1 j => ?_
    refine ⟨fun i m σ' H' => m = ds.length - i ∧ i ≤ ds.length ∧ ∃ F' as' ρ2 μ2, floop t b (ds.drop i) ρ2 μ2 = some (fl, ρ', μ') ∧ Ext F1 as1 F' as' ∧ SR g F' as' μ2 H' ∧ ER g F' as' ρ2 σ',
      ⟨ds.length, rfl, Nat.zero_le _, F1, as1, ρ, μ1, h2, .refl, sr1, er.mono x1⟩, ?_⟩
    rintro i m σ' H' ⟨rfl, hi', F', as', ρ2, μ2, h3, x2, sr2, er2⟩
    obtain ⟨j1, j2⟩ := j F' as' μ2 H' x2.1 sr2 i
    by_cases hlt : i < ds.length
    · right
      obtain ⟨go, step⟩ := j2 ds[i] (by simp [hlt])
      rw [List.drop_eq_getElem_cons hlt] at h3
      unfold floop at h3
      cases q : t (.val ds[i]) ρ2 μ2 with
      | none => rw [q] at h3; cases h3
      | some z =>
        obtain ⟨ρ3, μ3⟩ := z
        rw [q] at h3
        refine ⟨go, fun σ4 H4 => ∃ F4 as4 ρ4 μ4, floop t b (ds.drop (i + 1)) ρ4 μ4 = some (fl, ρ', μ') ∧ Ext F1 as1 F4 as4 ∧ SR g F4 as4 μ4 H4 ∧ ER g F4 as4 ρ4 σ4, fun σ4 H4 hN => ⟨ds.length - (i + 1), by omega, rfl, hlt, hN⟩, fun x H5 y => ?_⟩
        obtain ⟨F5, x5, sr5, r5⟩ := step x H5 y
        refine hg.run F5 as' ρ2 μ2 σ' H5 (.val ds[i]) x _ ρ3 μ3 q sr5 (er2.mono x5) r5 fun F6 as6 σ6 H6 x6 sr6 er6 _ => ?_
        have xx : Ext F1 as1 F6 as6 := (x2.trans x5).trans x6
        cases q2 : b ρ3 μ3 with
        | none => simp only [q2] at h3; cases h3
        | some z =>
          obtain ⟨fl2, ρ4, μ4⟩ := z
          simp only [q2] at h3
          refine hb.run F6 as6 ρ3 μ3 σ6 H6 _ fl2 ρ4 μ4 q2 sr6 er6 ?_
          cases fl2 with
          | nx => exact fun F7 as7 σ7 H7 x7 sr7 er7 => ⟨F7, as7, ρ4, μ4, h3, xx.trans x7, sr7, er7⟩
          | ct => exact fun F7 as7 σ7 H7 x7 sr7 er7 => ⟨F7, as7, ρ4, μ4, h3, xx.trans x7, sr7, er7⟩
          | bk => cases h3; exact fun F7 as7 σ7 H7 x7 sr7 er7 => post F7 as7 σ7 H7 ((x1.trans xx).trans x7) sr7 er7
          | rt s => cases h3; exact fun F7 as7 v H7 x7 sr7 ra7 => post F7 as7 v H7 ((x1.trans xx).trans x7) sr7 ra7
          | ex x => cases h3; exact fun F7 as7 σ7 cls d H7 x7 sr7 er7 rx7 => post F7 as7 σ7 cls d H7 ((x1.trans xx).trans x7) sr7 er7 rx7
    · left
      have e : i = ds.length := by omega
      rw [e, List.drop_length] at h3
      cases h3
      exact ⟨j1 e, post F' as' σ' H' (x1.trans x2) sr2 er2⟩
end
def wloop (t : MT) (b : MS) : Nat → MS
  | 0, _, _ => none
  | n + 1, ρ, μ => exThen (t ρ μ) ρ fun c μ1 => if c then (match b ρ μ1 with
      | some (.nx, ρ2, μ2) => wloop t b n ρ2 μ2
      | some (.ct, ρ2, μ2) => wloop t b n ρ2 μ2
      | some (.bk, ρ2, μ2) => some (.nx, ρ2, μ2)
      | r => r) else some (.nx, ρ, μ1)
theorem exThen_ex {α : Type} {r : Option (Except Ex α × Sto)} {ρ : En} {f f' : α → Sto → Option (Fl × En × Sto)} {q : Fl × En × Sto} (h : exThen r ρ f = some q) (hf : ∀ a μ q, f a μ = some q → f' a μ = some q) : exThen r ρ f' = some q := by
  rcases r with _ | ⟨_ | a, μ⟩
  · cases h
  · exact h
  · exact hf a μ q h
theorem wloop_mono {t : MT} {b : MS} : ∀ {n m : Nat} {ρ : En} {μ : Sto} {r : Fl × En × Sto}, n ≤ m → wloop t b n ρ μ = some r → wloop t b m ρ μ = some r
  | 0, _, _, _, _, _, h => by cases h
  | n + 1, 0, _, _, _, hl, _ => absurd hl (Nat.not_succ_le_zero n)
  | n + 1, m + 1, ρ, μ, r, hl, h => by
    unfold wloop at h ⊢
    refine exThen_ex h fun k μ1 q hk => ?_
    cases k with
    | false => exact hk
    | true =>
      rw [if_pos rfl] at hk ⊢
      cases e : b ρ μ1 with
      | none => rw [e] at hk; cases hk
      | some z =>
        obtain ⟨fl, ρ2, μ2⟩ := z
        rw [e] at hk
        cases fl with
        | nx => exact wloop_mono (Nat.le_of_succ_le_succ hl) hk
        | ct => exact wloop_mono (Nat.le_of_succ_le_succ hl) hk
        | bk => exact hk
        | rt s => exact hk
        | ex x => exact hk
open Classical in
/-- the loop to its end, however long -/
noncomputable def sWhile (t : MT) (b : MS) : MS := fun ρ μ => if h : ∃ n r, wloop t b n ρ μ = some r then some (choose (choose_spec h)) else none
theorem sWhile_eq {t : MT} {b : MS} {ρ : En} {μ : Sto} {r : Fl × En × Sto} (n : Nat) (h : wloop t b n ρ μ = some r) : sWhile t b ρ μ = some r := by
  unfold sWhile
  have hx : ∃ n r, wloop t b n ρ μ = some r := ⟨n, r, h⟩
  rw [dif_pos hx]
  have h2 := Classical.choose_spec (Classical.choose_spec hx)
  have h3 := wloop_mono (Nat.le_max_left n (Classical.choose hx)) h
  have h4 := wloop_mono (Nat.le_max_right n (Classical.choose hx)) h2
  exact h4.symm.trans h3
theorem sWhile_some {t : MT} {b : MS} {ρ : En} {μ : Sto} {r : Fl × En × Sto} (h : sWhile t b ρ μ = some r) : ∃ n, wloop t b n ρ μ = some r := by
  unfold sWhile at h
  split at h
  · rename_i hx
    cases h
    exact ⟨_, Classical.choose_spec (Classical.choose_spec hx)⟩
  · cases h
section
variable {g : G} {X : Cx} {W : WX} {c : Expr} {body : List Stmt} {t : MT} {b : MS} {pos : Pos}
theorem ss_while (hp : PassesOwn (model X.prog X.w) X.A X.env X.xe) (hc : STe g X W c t) (hb : SB g X W body b) : SS g X W (.While c body [] pos) (sWhile t b) := by
  refine ⟨fun F as ρ μ σ H D fl ρ' μ' h sr er post => wS (ps_while hp pt_wp pss_wp) ?_⟩
  obtain ⟨fuel, h⟩ := sWhile_some h
  refine ⟨fun n σ' H' => ∃ F' as' ρ2 μ2, wloop t b n ρ2 μ2 = some (fl, ρ', μ') ∧ Ext F as F' as' ∧ SR g F' as' μ2 H' ∧ ER g F' as' ρ2 σ', ⟨fuel, F, as, ρ, μ, h, .refl, sr, er⟩, ?_⟩
  rintro n σ' H' ⟨F', as', ρ2, μ2, h3, x2, sr2, er2⟩
  cases n with
  | zero => cases h3
  | succ n =>
    unfold wloop at h3
    refine hc.st h3 sr2 er2 (post.ext x2) fun k μ3 F3 as3 H3 h4 x3 sr3 er3 => ?_
    have xx := x2.trans x3
    cases k with
    | false =>
      rw [if_neg Bool.false_ne_true] at h4 ⊢
      cases h4
      exact post F3 as3 σ' H3 xx sr3 er3
    | true =>
      rw [if_pos rfl] at h4 ⊢
      refine ⟨fun σ4 H4 => ∃ F4 as4 ρ4 μ4, wloop t b n ρ4 μ4 = some (fl, ρ', μ') ∧ Ext F as F4 as4 ∧ SR g F4 as4 μ4 H4 ∧ ER g F4 as4 ρ4 σ4, fun σ4 H4 hN => ⟨n, Nat.lt_succ_self _, hN⟩, ?_⟩
      cases q2 : b ρ2 μ3 with
      | none => rw [q2] at h4; cases h4
      | some z =>
        obtain ⟨fl2, ρ4, μ4⟩ := z
        rw [q2] at h4
        refine hb.run F3 as3 ρ2 μ3 σ' H3 _ fl2 ρ4 μ4 q2 sr3 er3 ?_
        cases fl2 with
        | nx => exact fun F7 as7 σ7 H7 x7 sr7 er7 => ⟨F7, as7, ρ4, μ4, h4, xx.trans x7, sr7, er7⟩
        | ct => exact fun F7 as7 σ7 H7 x7 sr7 er7 => ⟨F7, as7, ρ4, μ4, h4, xx.trans x7, sr7, er7⟩
        | bk => cases h4; exact fun F7 as7 σ7 H7 x7 sr7 er7 => post F7 as7 σ7 H7 (xx.trans x7) sr7 er7
        | rt s => cases h4; exact fun F7 as7 v H7 x7 sr7 ra7 => post F7 as7 v H7 (xx.trans x7) sr7 ra7
        | ex x => cases h4; exact fun F7 as7 σ7 cls d H7 x7 sr7 er7 rx7 => post F7 as7 σ7 cls d H7 (xx.trans x7) sr7 er7 rx7
end
end Sz
set_option Elab.async false
set_option linter.all false
set_option maxRecDepth 100000
set_option maxHeartbeats 4000000
namespace Sz
open PySem PySem.Spec L2
def wipeE (ρ : En) : List Nat → En
  | [] => ρ
  | v :: vs => (wipeE ρ vs).set v none
theorem wipeE_length (ρ : En) : ∀ vs : List Nat, (wipeE ρ vs).length = ρ.length
  | [] => rfl
  | v :: vs => by unfold wipeE; rw [List.length_set, wipeE_length ρ vs]
theorem wipeE_some {ρ : En} {i : Nat} {s : S} : ∀ {vs : List Nat}, (wipeE ρ vs)[i]? = some (some s) → ρ[i]? = some (some s) ∧ i ∉ vs
  | [], h => ⟨h, by simp⟩
  | v :: vs, h => by
    unfold wipeE at h
    by_cases hi : v = i
    · subst hi
      by_cases hv : v < (wipeE ρ vs).length
      · rw [List.getElem?_set_self hv] at h; cases h
      · rw [List.getElem?_eq_none (by simpa using hv)] at h; cases h
    · rw [List.getElem?_set_ne hi] at h
      obtain ⟨h1, h2⟩ := wipeE_some h
      exact ⟨h1, by simp only [List.mem_cons, not_or]; exact ⟨fun e => hi e.symm, h2⟩⟩
theorem ER.wipe {g : G} {F : Hp} {as : List Addr} {ρ : En} {σ : L2.St} (h : ER g F as ρ σ) (vs : List Nat) : ER g F as (wipeE ρ vs) (L2.wipe σ vs) := by
  refine ⟨by rw [wipeE_length, wipe_length]; exact h.len, fun i s q => ?_⟩
  obtain ⟨h1, h2⟩ := wipeE_some q
  obtain ⟨v, h3, h4⟩ := h.at_ i s h1
  exact ⟨v, by rw [wipe_out h2]; exact h3, h4⟩
/-- the element made is put behind the k-th cell's list -/
def cput (k : Nat) (s : S) (μ : Sto) : Option Sto := match toD μ (rt s) with
  | some (d, μ1) => (match μ1[k]? with
    | some (.lst acc) => if acc.length < sizeLine then some (μ1.set k (.lst (acc ++ [d]))) else none
    | _ => none)
  | none => none
def cloop (t : MG) (c : MT) (el : ME) (ρ : En) (k : Nat) : List D → Sto → Option Sto
  | [], μ => some μ
  | d :: ds, μ => match t (.val d) ρ μ with
    | none => none
    | some (ρ1, μ1) => match c ρ1 μ1 with
      | some (.ok true, μ2) => (match el ρ1 μ2 with
        | some (.ok s, μ3) => (match cput k s μ3 with
          | some μ4 => cloop t c el ρ k ds μ4
          | none => none)
        | _ => none)
      | some (.ok false, μ2) => cloop t c el ρ k ds μ2
      | _ => none
def finC (k : Nat) : Option Sto → Option R
  | some μ => (match μ[k]? with
    | some (.lst acc) => some (.ok (.fr acc), μ.take k)
    | _ => none)
  | none => none
def mComp (i : MI) (t : MG) (c : MT) (el : ME) (own : List Nat) : ME := fun ρ μ => andThen (i ρ μ) fun ds μ1 => finC μ1.length (cloop t c el (wipeE ρ own) μ1.length ds (μ1 ++ [.lst []]))
def tTrue : MT := fun _ μ => some (.ok true, μ)
/-- no exception is taken there -/
abbrev W0 : WX := fun _ _ _ _ => False
abbrev blkX (X : Cx) (scope : Scope) (s : Shared) (H : Hp) (C : Addr) (cl : List (Str × Addr)) (fp : List Addr) : Cx := X.blk s H scope (compEnvC scope cl C X.env) fp
/-- a clause's tests -/
inductive STs (g : G) (X : Cx) (scope : Scope) : List Expr → MT → Prop
  | nil : STs g X scope [] tTrue
  | one {e : Expr} {c : MT} (h : ∀ s H C cl fp, STe g (blkX X scope s H C cl fp) W0 e c) : STs g X scope [e] c
def ttOf (X : Cx) (scope : Scope) : List Expr → TT
  | [] => tYes
  | e :: _ => fun σ H Q => ∀ s H' C cl fp, wpT (blkX X scope s H' C cl fp) e σ H Q
section
variable {g : G} {X : Cx} {W : WX} {tg iter elt : Expr} {ifs : List Expr} {scope : Scope} {mi : MI} {t : MG} {c : MT} {el : ME} {pos : Pos} {ow : List (Str × Nat)} {sl : List Nat}
theorem comp_run {F : Hp} {as : List Addr} {ρ : En} {μ : Sto} {σ : L2.St} {H : Hp} {Q : VK} {r : Except Ex S} {μ' : Sto} (hi : SI g X W tg iter mi) (hg : ∀ s H C cl fp, SG g (blkX X scope s H C cl fp) tg sl t) (hsl : ∀ i ∈ sl, i ∈ ow.map (·.2))
    (ht : STs g X scope ifs c) (he : ∀ s H C cl fp, SE g (blkX X scope s H C cl fp) W0 elt el) (h : mComp mi t c el (ow.map (·.2)) ρ μ = some (r, μ')) (sr : SR g F as μ H) (er : ER g F as ρ σ) (post : PostE g W F as σ Q r μ') :
    tLc (wpI X tg iter) (fun v σ H Q => ∀ s H' C cl fp, wpG (blkX X scope s H' C cl fp) tg v σ H Q) (ttOf X scope ifs)
      (fun σ H Q => ∀ s H' C cl fp, wpE (blkX X scope s H' C cl fp) elt σ H Q) (ow.map (·.2)) σ H Q := by
  rcases andThen_some (show andThen _ _ = some (r, μ') from h) with ⟨x, h1, h2⟩ | ⟨ds, μ1, h1, h2⟩
  · dsimp only at h1 h2
    subst h2
    exact hi.run F as ρ μ σ H _ (.error x) μ' h1 sr er post
  refine hi.run F as ρ μ σ H _ (.ok ds) μ1 h1 sr er fun F1 as1 H1 J x1 sr1 j => ?_
  intro Dl hD
  have er1 := (er.mono x1).wipe (ow.map (·.2))
  cases hq : cloop t c el (wipeE ρ (ow.map (·.2))) μ1.length ds (μ1 ++ [.lst []]) with
  | none => rw [hq] at h2; cases h2
  | some μf =>
    rw [hq] at h2
    obtain ⟨sr2, f2, n2⟩ := sr1.loose (o := .lst []) hD
    obtain ⟨sr3, x3⟩ := sr2.push (c := .lst []) upd_same n2 ⟨f2, [], upd_same, Reps.nil⟩
    have hk0 : (as1 ++ [Dl])[μ1.length]? = some Dl := by rw [← sr1.len, List.getElem?_append_right (Nat.le_refl _), Nat.sub_self]; rfl
    refine ⟨fun i m H' => m = ds.length - i ∧ i ≤ ds.length ∧ ∃ F' as' μ2, cloop t c el (wipeE ρ (ow.map (·.2))) μ1.length (ds.drop i) μ2 = some μf ∧ Ext F1 (as1 ++ [Dl]) F' as' ∧ SR g F' as' μ2 H',
      ⟨ds.length, rfl, Nat.zero_le _, F1, as1 ++ [Dl], _, hq, .refl, sr3⟩, ?_⟩
    rintro i m H' ⟨rfl, hi', F', as', μ2, h3, x2, sr2⟩
    obtain ⟨j1, j2⟩ := j F' as' μ2 H' x2.1 sr2 i
    have hka : as'[μ1.length]? = some Dl := by
      obtain ⟨_, l, rfl⟩ := x2
      rw [List.getElem?_append_left (List.getElem?_eq_some_iff.mp hk0).1]
      exact hk0
    by_cases hlt : i < ds.length
    · right
      obtain ⟨go, step⟩ := j2 ds[i] (by simp [hlt])
      rw [List.drop_eq_getElem_cons hlt] at h3
      unfold cloop at h3
      cases q : t (.val ds[i]) (wipeE ρ (ow.map (·.2))) μ2 with
      | none => simp only [q] at h3; cases h3
      | some z =>
        obtain ⟨ρ3, μ3⟩ := z
        simp only [q] at h3
        refine ⟨go, fun H4 => ∃ F4 as4 μ4, cloop t c el (wipeE ρ (ow.map (·.2))) μ1.length (ds.drop (i + 1)) μ4 = some μf ∧ Ext F1 (as1 ++ [Dl]) F4 as4 ∧ SR g F4 as4 μ4 H4, fun H4 hN => ⟨ds.length - (i + 1), by omega, rfl, hlt, hN⟩, fun x H5 y => ?_⟩
        obtain ⟨F5, x5, sr5, r5⟩ := step x H5 y
        intro s H' C cl fp
        refine (hg s H' C cl fp).run F5 as' _ μ2 _ H5 (.val ds[i]) x _ ρ3 μ3 q sr5 (er1.mono (Ext.trans (show Ext F1 as1 F1 (as1 ++ [Dl]) from x3) (x2.trans x5))) r5 fun F6 as6 σ6 H6 x6 sr6 er6 w6 => ?_
        have xx : Ext F1 (as1 ++ [Dl]) F6 as6 := (x2.trans x5).trans x6
        have w7 : L2.wipe σ6 (ow.map (·.2)) = L2.wipe σ (ow.map (·.2)) := by
          rw [w6 _ hsl]
          apply List.ext_getElem?
          intro k
          by_cases hk : k ∈ ow.map (·.2)
          · rw [wipe_in hk, wipe_in hk, wipe_length]
          · rw [wipe_out hk]
        refine ⟨w7, ?_⟩
        -- the test, then the element
        have rest : ∀ (F7 : Hp) (as7 : List Addr) (μ7 : Sto) (H7 : Hp) (k : Bool), Ext F6 as6 F7 as7 → SR g F7 as7 μ7 H7 → c ρ3 μ3 = some (.ok k, μ7) →
            (if k = true then (∀ s H' C cl fp, wpE (blkX X scope s H' C cl fp) elt σ6 H7 fun y H4 => ∃ acc, H4 Dl = some (.lst acc) ∧ acc.length < sizeLine ∧ (fun H4 => ∃ F4 as4 μ4, cloop t c el (wipeE ρ (ow.map (·.2))) μ1.length (ds.drop (i + 1)) μ4 = some μf ∧ Ext F1 (as1 ++ [Dl]) F4 as4 ∧ SR g F4 as4 μ4 H4) (upd H4 Dl (.lst (acc ++ [y]))))
              else (fun H4 => ∃ F4 as4 μ4, cloop t c el (wipeE ρ (ow.map (·.2))) μ1.length (ds.drop (i + 1)) μ4 = some μf ∧ Ext F1 (as1 ++ [Dl]) F4 as4 ∧ SR g F4 as4 μ4 H4) H7) := by
          intro F7 as7 μ7 H7 k x7 sr7 hc
          rw [hc] at h3
          cases k with
          | false =>
            rw [if_neg Bool.false_ne_true]
            exact ⟨F7, as7, μ7, h3, xx.trans x7, sr7⟩
          | true =>
            rw [if_pos rfl]
            intro s H' C cl fp
            cases q2 : el ρ3 μ7 with
            | none => simp only [q2] at h3; cases h3
            | some z =>
              obtain ⟨r8, μ8⟩ := z
              cases r8 with
              | error _ => simp only [q2] at h3; cases h3
              | ok s8 =>
                simp only [q2] at h3
                refine (he s H' C cl fp).run F7 as7 ρ3 μ7 σ6 H7 _ (.ok s8) μ8 q2 sr7 (er6.mono x7) fun F8 as8 v8 H8 x8 sr8 ra8 => ?_
                cases q3 : cput μ1.length s8 μ8 with
                | none => simp only [q3] at h3; cases h3
                | some μ9 =>
                  simp only [q3] at h3
                  unfold cput at q3
                  split at q3
                  · rename_i d μa hd
                    obtain ⟨F8', x8', sr8', rs8⟩ := root_ok sr8 ra8
                    obtain ⟨F9, x9, sr9, r9⟩ := toD_rs sr8' rs8 hd
                    have xy : Ext F1 (as1 ++ [Dl]) F9 as8 := ((xx.trans x7).trans x8).trans (x8'.trans x9)
                    have hkb : as8[μ1.length]? = some Dl := by
                      obtain ⟨_, l, e⟩ := xy
                      rw [e, List.getElem?_append_left (List.getElem?_eq_some_iff.mp hk0).1]
                      exact hk0
                    split at q3
                    · rename_i acc hacc
                      split at q3
                      · rename_i hz
                        cases q3
                        obtain ⟨fa, vs, ha, rv⟩ := sr9.cells _ _ _ hkb hacc
                        refine ⟨vs, ha, by rw [rv.length]; exact hz, F9, as8, _, h3, xy, ?_⟩
                        exact sr9.write hkb fa ⟨fa, _, upd_same, rv.append (Reps.cons r9 Reps.nil)⟩
                      · cases q3
                    · cases q3
                  · cases q3
        cases ht with
        | nil => exact rest F6 as6 μ3 H6 true .refl sr6 rfl
        | one hte =>
          intro s H' C cl fp
          cases q2 : c ρ3 μ3 with
          | none => simp only [q2] at h3; cases h3
          | some z =>
            obtain ⟨r7, μ7⟩ := z
            cases r7 with
            | error _ => simp only [q2] at h3; cases h3
            | ok k => exact (hte s H' C cl fp).run F6 as6 ρ3 μ3 σ6 H6 _ (.ok k) μ7 q2 sr6 er6 fun F7 as7 H7 x7 sr7 => rest F7 as7 μ7 H7 k x7 sr7 q2
    · left
      have e : i = ds.length := by omega
      refine ⟨j1 e, ?_⟩
      rw [e, List.drop_length] at h3
      cases h3
      replace h2 : (match μf[μ1.length]? with | some (.lst acc) => some (Except.ok (S.fr acc), μf.take μ1.length) | _ => none) = some (r, μ') := h2
      split at h2
      · rename_i acc hacc
        cases h2
        obtain ⟨fa, vs, ha, rv⟩ := sr2.cells _ _ _ hka hacc
        have x9 : Ext F1 as1 F' as' := Ext.trans (show Ext F1 as1 F1 (as1 ++ [Dl]) from x3) x2
        refine post F' as1 _ H' (x1.trans ⟨x9.1, [], by rw [List.append_nil]⟩) (sr1.back x9 sr2) (ra_lst ha fa ?_ rv)
        intro hm
        exact n2 hm
      · cases h2
theorem comp_parts (hg : ∀ s H C cl fp, SG g (blkX X scope s H C cl fp) tg sl t) (ht : STs g X scope ifs c) :
    (∀ (s : Shared) (H : Hp) (C : Addr) (cl : List (Str × Addr)) (fp : List Addr), PG (X.blk s H scope (compEnvC scope cl C X.env) fp) tg (fun v σ H Q => ∀ s H' C cl fp, wpG (blkX X scope s H' C cl fp) tg v σ H Q)) ∧
    (∀ (s : Shared) (H : Hp) (C : Addr) (cl : List (Str × Addr)) (fp : List Addr), PTs (X.blk s H scope (compEnvC scope cl C X.env) fp) ifs (ttOf X scope ifs)) ∧
    (∀ (s : Shared) (H : Hp) (C : Addr) (cl : List (Str × Addr)) (fp : List Addr), PE (X.blk s H scope (compEnvC scope cl C X.env) fp) elt (fun σ H Q => ∀ s H' C cl fp, wpE (blkX X scope s H' C cl fp) elt σ H Q)) := by
  refine ⟨fun s H C cl fp => ⟨fun pins s' σ H' v u Q I r h => h s H C cl fp pins s' u I r⟩, ?_, fun s H C cl fp => ⟨fun pins s' σ H' Q I h => h s H C cl fp pins s' I⟩⟩
  cases ht with
  | nil => exact fun s H C cl fp => pts_nil
  | one _ => exact fun s H C cl fp => pts_one ⟨fun pins s' σ H' Q I h => h s H C cl fp pins s' I⟩
theorem se_comp (hc : X.calm = true) (hN : X.N.Nodup) (hi : SI g X W tg iter mi) (ok : BlkOk X.N X.env.scope scope ow) (hg : ∀ s H C cl fp, SG g (blkX X scope s H C cl fp) tg sl t) (hsl : ∀ i ∈ sl, i ∈ ow.map (·.2))
    (ht : STs g X scope ifs c) (he : ∀ s H C cl fp, SE g (blkX X scope s H C cl fp) W0 elt el) (hs : notSet iter = true) : SE g X W (.ListComp elt [⟨tg, iter, ifs, 0⟩] scope pos) (mComp mi t c el (ow.map (·.2))) := by
  obtain ⟨p1, p2, p3⟩ := comp_parts (elt := elt) hg ht
  exact ⟨fun F as ρ μ σ H Q r μ' h sr er post => wE (pe_lc hc hN pi_wp ok p1 p2 p3 (notSet_ok hs)) (comp_run hi hg hsl ht he h sr er post)⟩
end
def gSubM (o i : ME) : MG := fun s ρ μ => match toD μ (rt s) with
  | some (d, μ1) => (match o ρ μ1 with
    | some (.ok so, μ2) => (match i ρ μ2 with
      | some (.ok si, μ3) => (match rt so, vw μ3 si with
        | .cell k, some (.int j) => (match μ3[k]? with
          | some (.lst ds) => (match ixN ds.length j with
            | some p => some (ρ, μ3.set k (.lst (ds.set p d)))
            | none => none)
          | some (.pot j0 ds) => (match ixN (ds.length + 1) j with
            | some (p + 1) => some (ρ, μ3.set k (.pot j0 (ds.set p d)))
            | _ => none)
          | _ => none)
        | _, _ => none)
      | _ => none)
    | _ => none)
  | none => none
section
variable {g : G} {X : Cx} {W : WX} {o i : Expr} {mo mi : ME} {pos : Pos}
theorem sub_asg {o i : Expr} {pos : Pos} {env : PySem.Env} (hn : notSlice i = true) (v : Value) : assign (.Subscript o i pos) env v = (do
      let ov ← holding [v] (eval o env)
      let iv ← holding [v, ov] (eval i env)
      standAt pos
      holding [v, ov, iv] (setItem ov iv v)
      release [v, ov, iv] []) := by
  cases i <;> first | rfl | (unfold notSlice at hn; cases hn)
theorem sg_sub (hn : notSlice i = true) (ho : SE g X W o mo) (hi : SE g X W i mi) : SG g X (.Subscript o i pos) [] (gSubM mo mi) := by
  refine ⟨fun F as ρ μ σ H s v Q ρ' μ' h sr er ra k pins st u I ru => ?_⟩
  refine (pg_sub pe_wp pe_wp set_list (sub_asg hn)).run pins st σ H v u Q I ru ?_
  obtain ⟨F0, x0, sr0, rs0⟩ := root_ok sr ra
  unfold gSubM at h
  split at h
  · rename_i d μ1 hd
    obtain ⟨F1, x1, sr1, r1⟩ := toD_rs sr0 rs0 hd
    split at h
    · rename_i so μ2 h2
      refine ho.run F1 as ρ μ1 σ H _ (.ok so) μ2 h2 sr1 ((er.mono x0).mono x1) fun F2 as2 v2 H2 x2 sr2 ra2 => ?_
      obtain ⟨F2', x2', sr2', rs2⟩ := root_ok sr2 ra2
      have xx := ((x0.trans x1).trans x2).trans x2'
      split at h
      · rename_i si μ3 h3
        refine hi.run F2' as2 ρ μ2 σ H2 _ (.ok si) μ3 h3 sr2' (er.mono xx) fun F3 as3 v3 H3 x3 sr3 ra3 => ?_
        split at h
        · rename_i kk j hk hj
          have rk := rs2.mono x3
          rw [hk] at rk
          obtain ⟨a, ha, rfl⟩ := (show ∃ a, as3[kk]? = some a ∧ v2 = .ref a from rk)
          cases vr_int (view_ra sr3 ra3 hj)
          split at h
          · rename_i ds hds
            split at h
            · rename_i p hp
              cases h
              obtain ⟨fa, vs, hv, rv⟩ := sr3.cells _ _ _ ha hds
              refine ⟨a, vs, j, p, rfl, rfl, hv, by rw [rv.length]; exact hp, ?_⟩
              have rd : Rep g F3 d v := ((r1.mono x2.1).mono x2'.1).mono x3.1
              exact k F3 as3 σ _ (xx.trans x3) (sr3.write ha fa ⟨fa, _, upd_same, Reps.set rd p rv⟩) (er.mono (xx.trans x3)) fun _ _ => rfl
            · cases h
          · rename_i j0 ds hds
            split at h
            · rename_i p hp
              cases h
              obtain ⟨fa, b, us, hb, hv, rv⟩ := sr3.cells _ _ _ ha hds
              refine ⟨a, .ref b :: us, j, p + 1, rfl, rfl, hv, by rw [List.length_cons, rv.length]; exact hp, ?_⟩
              have rd : Rep g F3 d v := ((r1.mono x2.1).mono x2'.1).mono x3.1
              exact k F3 as3 σ _ (xx.trans x3) (sr3.write ha fa ⟨fa, b, us.set p v, hb, upd_same, Reps.set rd p rv⟩) (er.mono (xx.trans x3)) fun _ _ => rfl
            · cases h
          · cases h
        · cases h
      · cases h
    · cases h
  · cases h
end
def putD (f : Str) (d : D) : List (Str × D) → List (Str × D)
  | [] => [(f, d)]
  | (x, y) :: r => if x = f then (x, d) :: r else (x, y) :: putD f d r
theorem putD_rep {g : G} {F : Hp} {f : Str} {d : D} {v : V} (hd : Rep g F d v) : ∀ {fs : List (Str × D)} {vs : List V}, vs.length = fs.length → Reps g F (fs.map (·.2)) vs →
    ∃ vs', putF f v ((fs.map (·.1)).zip vs) = ((putD f d fs).map (·.1)).zip vs' ∧ vs'.length = (putD f d fs).length ∧ Reps g F ((putD f d fs).map (·.2)) vs'
  | [], vs, hl, h => by
    rw [Reps.nil_iff.mp h]
    exact ⟨[v], rfl, rfl, Reps.cons hd Reps.nil⟩
  | (x, y) :: r, vs, hl, h => by
    obtain ⟨u, us, rfl, h1, h2⟩ := Reps.cons_iff.mp h
    by_cases e : x = f
    · refine ⟨v :: us, ?_, ?_, ?_⟩
      · show putF f v ((x, u) :: (r.map (·.1)).zip us) = _
        unfold putD
        rw [if_pos e]
        show (if x = f then (x, v) :: _ else _) = _
        rw [if_pos e]
        rfl
      · unfold putD
        rw [if_pos e]
        simpa using hl
      · unfold putD
        rw [if_pos e]
        exact Reps.cons hd h2
    · obtain ⟨vs', e1, e2, e3⟩ := putD_rep hd (fs := r) (vs := us) (by simpa using hl) h2
      refine ⟨u :: vs', ?_, ?_, ?_⟩
      · show putF f v ((x, u) :: (r.map (·.1)).zip us) = _
        unfold putD
        rw [if_neg e]
        show (if x = f then _ else (x, u) :: putF f v _) = _
        rw [if_neg e, e1]
        rfl
      · unfold putD
        rw [if_neg e, List.length_cons, List.length_cons, e2]
      · unfold putD
        rw [if_neg e]
        exact Reps.cons h1 e3
def sFldM (n : Nat) (f : Str) (o m : ME) : MS := fun ρ μ => exThen (m ρ μ) ρ fun s μ1 => match toD μ1 (rt s) with
  | some (d, μ2) => exThen (o ρ μ2) ρ fun so μ3 => match rt so with
    | .cell k => (match μ3[k]? with
      | some (.ins c fs) => if c < n ∧ fs.length < 1000 then some (.nx, ρ, μ3.set k (.ins c (putD f d fs))) else none
      | _ => none)
    | _ => none
  | none => none
theorem swaps_attr {e o : Expr} {f : Str} {p : Pos} {l : Nat} {env : PySem.Env} : swapsWith e (some (.Attribute o f p)) l env = pure false := by
  cases e <;> rfl
section
variable {g : G} {X : Cx} {W : WX} {o e : Expr} {mo m : ME} {f : Str} {pos pos' : Pos} {n : Nat}
theorem ss_fld (hK : g.K = X.K) (hcl : ∀ c, c < n → Cls g.K (g.cad c) ∧ NoAttr g.K (g.cad c) f) (ho : SE g X W o mo) (he : SE g X W e m) : SS g X W (.Assign [.Attribute o f pos'] e pos) (sFldM n f mo m) := by
  refine ⟨fun F as ρ μ σ H D fl ρ' μ' h sr er post => wS (ps_fld pe_wp pe_wp swaps_attr) ?_⟩
  refine he.st (show exThen _ _ _ = some (fl, ρ', μ') from h) sr er post fun s μ1 F1 as1 v H1 h1 x1 sr1 er1 ra1 => ?_
  obtain ⟨F2, x2, sr2, rs2⟩ := root_ok sr1 ra1
  split at h1
  · rename_i d μ2 hd
    obtain ⟨F3, x3, sr3, r3⟩ := toD_rs sr2 rs2 hd
    have xx := x2.trans x3
    refine ho.st h1 sr3 (er1.mono xx) (post.ext (x1.trans xx)) fun so μ4 F4 as4 v4 H4 h4 x4 sr4 er4 ra4 => ?_
    obtain ⟨F5, x5, sr5, rs5⟩ := root_ok sr4 ra4
    split at h4
    · rename_i k hk
      rw [hk] at rs5
      obtain ⟨a, ha, rfl⟩ := (show ∃ a, as4[k]? = some a ∧ v4 = .ref a from rs5)
      split at h4
      · rename_i c fs hc
        split at h4
        · rename_i hz
          cases h4
          obtain ⟨fa, dx, vs, h6, h7, h8⟩ := sr5.cells _ _ _ ha hc
          obtain ⟨c1, c2⟩ := hcl c hz.1
          have hlen : ((fs.map (·.1)).zip vs).length < 1000 := by rw [List.length_zip, List.length_map, h7, Nat.min_self]; exact hz.2
          obtain ⟨vs', e1, e2, e3⟩ := putD_rep (f := f) ((r3.mono x4.1).mono x5.1) h7 h8
          refine ⟨a, _, dx, _, rfl, h6, hK ▸ c1, hK ▸ c2, hlen, ?_⟩
          rw [e1]
          exact post F5 as4 σ _ (((x1.trans xx).trans x4).trans x5) (sr5.write ha fa ⟨fa, dx, vs', upd_same, e2, e3⟩) (er4.mono x5)
        · cases h4
      · cases h4
    · cases h4
  · cases h1
end
def sRaise (c : Nat) : MS := fun ρ μ => some (.ex (.own c []), ρ, μ)
/-- an own exception class without __init__, as the head has it -/
structure XcF (g : G) (K : PySem.W.Frag) (c : Nat) : Prop where
  ok : ∃ (B newId initId : String) (bmB : List Value), ExcBaseFacts B newId initId bmB ∧ PySem.W.excIn K (g.cad c) bmB newId = true
  kp : PySem.W.keepIn K (.ref (g.cad c)) = true
  b : PySem.W.subIn K (.ref (g.cad c)) (.type "BaseException") = some true
  t : PySem.W.typeIn K (.ref (g.cad c)) = some (.type "type")
theorem ss_raise {g : G} {X : Cx} {W : WX} {c : Nat} {x m : Str} {j : Nat} {p p2 pos pos' : Pos} (hc : X.calm = true) (tk : Takes X W) (xf : XcF g X.K c) (hg : Gl X x) (hm : X.mg x = some (.ref (g.cad c))) (hdb : (x == ("__debug__" : Str)) = false) :
    SS g X W (.Raise (some (.Call (.Name x p) [.Constant (.str m) j p2] [] pos)) none pos') (sRaise c) := by
  obtain ⟨B, newId, initId, bmB, fB, q⟩ := xf.ok
  refine ⟨fun F as ρ μ σ H D fl ρ' μ' h sr er post => wS (ps_raise hc tk (pmk_own fB q hm xf.kp (raises_own xf.b xf.t) hg hdb)) ?_⟩
  cases h
  exact post F as σ _ none H .refl sr er ⟨rfl, .inl ⟨rfl, rfl⟩⟩
end Sz
set_option Elab.async false
set_option linter.all false
set_option maxRecDepth 100000
set_option maxHeartbeats 4000000
namespace Sz
open PySem PySem.Spec L2
/-- the module as the head has it: names that stand for nothing of its own, names of defs and classes -/
structure Tb (g : G) (mg : Str → Option Value) (frees globs : List Str) : Prop where
  fr : ∀ x, frees.contains x = true → mg x = none
  gl : ∀ x, globs.contains x = true → mg x = some (.ref (He.ga g.K x)) ∧ PySem.W.keepIn g.K (.ref (He.ga g.K x)) = true
structure Ct (g : G) (P : Program) (w : World) (mg : Str → Option Value) (base : Heap) (k : Nat) (N : List Str) (sc : Scope) (own cm gb : Bool) (X : Cx) (W : WX) : Prop where
  hP : X.prog = P
  hw : X.w = w
  hK : X.K = g.K
  hmg : X.mg = mg
  hb : X.base = base
  hN : X.N = N
  nd : N.Nodup
  kd : sc.kind = .function
  hsc : X.env.scope = sc
  calm : cm = true → X.calm = true
  gd : gb = true → X.A.guards = some []
  room : cm = true → Room k X.A
  hu : X.A.units + 200 < cLine
  stk : own = true → X.stack = X.env :: X.outer
  frm : own = true → X.env.frame = some X.env.locals
  tk : Takes X W
  fn : own = true → ∀ x, X.fn x = true
  po : own = true → cm = true → PassesOwn (model X.prog X.w) X.A X.env X.xe
  ex : own = true → X.ex = []
def visB (sc : Scope) (x : Str) : Bool := match sc.names.lookup x with
  | some .local => true
  | some .cell => true
  | some .free => true
  | _ => false
def varB (N : List Str) (sc : Scope) (i : Nat) (x : Str) : Bool := (match N[i]? with
  | some y => y == x
  | none => false) && (visB sc x && (!(x == ("__debug__" : Str)) && !(x == ("__classdict__" : Str))))
def setB (N : List Str) (sc : Scope) (own : Bool) (i : Nat) (x : Str) : Bool := (match N[i]? with
  | some y => y == x
  | none => false) && (match sc.names.lookup x with
  | some .local => true
  | some .cell => own
  | _ => false)
def locB (N : List Str) (sc : Scope) (i : Nat) (x : Str) : Bool := (match N[i]? with
  | some y => y == x
  | none => false) && (match sc.names.lookup x with
  | some .local => true
  | _ => false)
def glB (sc : Scope) (x : Str) : Bool := (match sc.names.lookup x with
  | some .globalImplicit => true
  | _ => false) && (!(x == ("__debug__" : Str)) && !(x == ("__name__" : Str)))
section
variable {g : G} {P : Program} {w : World} {mg : Str → Option Value} {base : Heap} {k : Nat} {N : List Str} {sc : Scope} {own cm gb : Bool} {X : Cx} {W : WX} {i : Nat} {x : Str}
theorem at_of {N : List Str} {i : Nat} {x : Str} (h : (match N[i]? with
  | some y => y == x
  | none => false) = true) : N[i]? = some x := by
  split at h
  · rename_i y e
    rw [e, beq_iff_eq.mp h]
  · cases h
theorem Ct.K (c : Ct g P w mg base k N sc own cm gb X W) : g.K = X.K := c.hK.symm
theorem Ct.nd' (c : Ct g P w mg base k N sc own cm gb X W) : X.N.Nodup := by rw [c.hN]; exact c.nd
theorem Ct.kd' (c : Ct g P w mg base k N sc own cm gb X W) : X.env.scope.kind = .function := by rw [c.hsc]; exact c.kd
theorem Ct.at (c : Ct g P w mg base k N sc own cm gb X W) (h : (match N[i]? with
  | some y => y == x
  | none => false) = true) : X.N[i]? = some x := by rw [c.hN]; exact at_of h
theorem Ct.var {pos : Pos} (c : Ct g P w mg base k N sc own cm gb X W) (h : varB N sc i x = true) : SE g X W (.Name x pos) (mVar i) := by
  unfold varB at h
  simp only [Bool.and_eq_true, Bool.not_eq_true'] at h
  obtain ⟨h1, h2, h3, h4⟩ := h
  refine se_var (c.at h1) ?_ h3 h4
  unfold Vis
  rw [c.hsc]
  unfold visB at h2
  split at h2
  · rename_i e; exact .inl e
  · rename_i e; exact .inr (.inl e)
  · rename_i e; exact .inr (.inr e)
  · cases h2
theorem Ct.locs (c : Ct g P w mg base k N sc own cm gb X W) (h : setB N sc own i x = true) : X.N[i]? = some x ∧ L2.Loc X.env.scope x ∧ (X.fn x = true ∨ X.env.scope.names.lookup x = some .local) := by
  unfold setB at h
  rw [Bool.and_eq_true] at h
  refine ⟨c.at h.1, ?_⟩
  have h2 := h.2
  unfold L2.Loc
  rw [c.hsc]
  split at h2
  · rename_i e
    exact ⟨.inl e, .inr e⟩
  · rename_i e
    exact ⟨.inr e, .inl (c.fn h2 x)⟩
  · cases h2
theorem Ct.loc1 (c : Ct g P w mg base k N sc own cm gb X W) (h : locB N sc i x = true) : X.N[i]? = some x ∧ X.env.scope.names.lookup x = some .local := by
  unfold locB at h
  rw [Bool.and_eq_true] at h
  refine ⟨c.at h.1, ?_⟩
  have h2 := h.2
  rw [c.hsc]
  split at h2
  · assumption
  · cases h2
theorem Ct.gl (c : Ct g P w mg base k N sc own cm gb X W) (h : glB sc x = true) : Gl X x ∧ (x == ("__debug__" : Str)) = false ∧ x ≠ "__name__" := by
  unfold glB at h
  simp only [Bool.and_eq_true, Bool.not_eq_true'] at h
  obtain ⟨h1, h2, h3⟩ := h
  refine ⟨?_, h2, fun e => by rw [e] at h3; cases h3⟩
  show X.env.scope.names.lookup x = _
  rw [c.hsc]
  split at h1
  · assumption
  · cases h1
variable {frees globs : List Str}
/-- a builtin's call -/
theorem Ct.callB {id : String} {op : List D → Option S} {e : Expr} {es : List Expr} {p pos : Pos} {ms : List ME} (c : Ct g P w mg base k N sc own cm gb X W) (T : Tb g mg frees globs) (ho : CallOk g X (.builtin id) op) (hg : glB sc x = true) (hf : frees.contains x = true)
    (hv : bootBuiltins x = some (.builtin id)) (hst : (e :: es).all notStar = true) (ha : SA g X W (e :: es) (mArgs ms)) : SE g X W (.Call (.Name x p) (e :: es) [] pos) (mCallB op ms) :=
  se_callB ho (c.gl hg).1 (by rw [c.hmg]; exact T.fr x hf) hv (c.gl hg).2.2 (c.gl hg).2.1 hst ha
theorem Ct.callTy {id : String} {op : List D → Option S} {e : Expr} {es : List Expr} {p pos : Pos} {ms : List ME} (c : Ct g P w mg base k N sc own cm gb X W) (T : Tb g mg frees globs) (ho : CallOk g X (.type id) op) (hg : glB sc x = true) (hf : frees.contains x = true)
    (hv : bootBuiltins x = some (.type id)) (hst : (e :: es).all notStar = true) (ha : SA g X W (e :: es) (mArgs ms)) : SE g X W (.Call (.Name x p) (e :: es) [] pos) (mCallB op ms) :=
  se_callTy ho (c.gl hg).1 (by rw [c.hmg]; exact T.fr x hf) hv (c.gl hg).2.2 (c.gl hg).2.1 hst ha
/-- a builtin type's name -/
theorem Ct.tyName {id : String} {p : Pos} (c : Ct g P w mg base k N sc own cm gb X W) (T : Tb g mg frees globs) (hg : glB sc x = true) (hf : frees.contains x = true) (hv : bootBuiltins x = some (.type id)) : SE g X W (.Name x p) (mK (.ty id)) :=
  se_k (v := .ty id) (pe_bltn (c.gl hg).1 (by rw [c.hmg]; exact T.fr x hf) hv rfl (c.gl hg).2.2 (c.gl hg).2.1) fun F => by unfold Rep; rfl
theorem Ct.clsName {n : Nat} {p : Pos} (c : Ct g P w mg base k N sc own cm gb X W) (T : Tb g mg frees globs) (hg : glB sc x = true) (hf : globs.contains x = true) (hc : g.cad n = He.ga g.K x) : SE g X W (.Name x p) (mK (.cls n)) :=
  se_k (v := .ref (He.ga g.K x)) (pe_glob (c.gl hg).1 (by rw [c.hmg]; exact (T.gl x hf).1) rfl (c.gl hg).2.1) fun F => by unfold Rep; rw [hc]
structure FnC (gb : Bool) (g : G) (P : Program) (w : World) (mg : Str → Option Value) (base : Heap) (fi : FnI) (k : Nat) (f : Addr) (sh : List (Nat × List Str)) : Prop where
  ok : ∃ fd dvs, FnG gb P w g.K mg base (CX P w) k f fd fi.ps (spOf g fi.ps.length fi.sem) ∧ (∀ q ∈ sh, Bnd g.K fd fi.ps q.1 q.2 dvs) ∧ ∀ F, Reps g F fi.dfl dvs
theorem Ct.fnK {gc : Bool} {fi : FnI} {f : Addr} {n : Nat} {ks : List Str} {j : Nat} {sh : List (Nat × List Str)} (c : Ct g P w mg base k N sc own true gb X W) (F : FnC gc g P w mg base fi j f sh) (h : (sh.contains (n, ks)) = true) : FnK gc g X fi j f n ks := by
  obtain ⟨fd, dvs, h1, h2, h3⟩ := F.ok
  refine ⟨fd, dvs, ?_, ?_, h3⟩
  · rw [c.hP, c.hw, c.hK, c.hmg, c.hb]
    exact h1
  · rw [c.hK]
    exact h2 (n, ks) (List.contains_iff_mem.mp h)
/-- f(..) of an own def -/
theorem Ct.call {gc : Bool} {fi : FnI} {n j : Nat} {ks : List Str} {sh : List (Nat × List Str)} {p pos : Pos} {es : List Expr} {kws : List Keyword} {ms kms : List ME} (c : Ct g P w mg base k N sc own true gb X W) (T : Tb g mg frees globs) (F : FnC gc g P w mg base fi j (He.ga g.K x) sh) (hgd : leB gc gb = true)
    (hj : Nat.ble j k = true) (hs : sh.contains (n, ks) = true) (hg : glB sc x = true) (hf : globs.contains x = true) (hks : kwNames kws = some ks) (ha : SAs g X W es ms) (hkw : SK g X W kws (mArgs kms)) :
    SE g X W (.Call (.Name x p) es kws pos) (mCallF fi n ks ms kms) :=
  se_call (c.fnK F hs) ((c.room rfl).mono (Nat.le_of_ble_eq_true hj)) (fun e => c.gd (leB_ok hgd e)) c.tk (c.gl hg).1 (by rw [c.hmg]; exact (T.gl x hf).1) (by rw [c.hK]; exact (T.gl x hf).2) (c.gl hg).2.1 hks ha hkw
/-- C(..) -/
theorem Ct.make {gc : Bool} {mi : MkI} {n j : Nat} {ks : List Str} {sh : List (Nat × List Str)} {p pos : Pos} {es : List Expr} {kws : List Keyword} {ms kms : List ME} {f : Addr} (c : Ct g P w mg base k N sc own true gb X W) (T : Tb g mg frees globs) (F : FnC gc g P w mg base mi.fi j f sh) (hgd : leB gc gb = true)
    (M : Mk g.K (g.cad mi.c) f) (hfl : g.fl mi.c = mi.fl) (hc : g.cad mi.c = He.ga g.K x)
    (hj : Nat.ble (j + 1) k = true) (hs : sh.contains (n + 1, ks) = true) (hg : glB sc x = true) (hf : globs.contains x = true) (hks : kwNames kws = some ks) (ha : SAs g X W es ms) (hkw : SK g X W kws (mArgs kms)) :
    SE g X W (.Call (.Name x p) es kws pos) (mMake mi n ks ms kms) :=
  se_make (c.fnK F hs) ((c.room rfl).mono (Nat.le_of_ble_eq_true hj)) (fun e => c.gd (leB_ok hgd e)) c.tk (by rw [c.hK]; exact M) hfl (c.gl hg).1 (by rw [c.hmg, hc]; exact (T.gl x hf).1) (c.gl hg).2.1 hks ha hkw
/-- a name's store -/
theorem Ct.sgName {pos : Pos} {fl : Bool} (c : Ct g P w mg base k N sc own cm gb X W) (h : setB N sc own i x = true) : SG g X (.Name x pos) [i] (gNm i fl) :=
  sg_name c.nd' (c.locs h).1 (c.locs h).2.1 (c.locs h).2.2
theorem Ct.set {fl : Bool} {e : Expr} {m : ME} {pos pos' : Pos} (c : Ct g P w mg base k N sc own cm gb X W) (h : setB N sc own i x = true) (hc : notComp e = true) (he : SE g X W e m) : SS g X W (.Assign [.Name x pos'] e pos) (sAsg (gNm i fl) m) :=
  ss_set c.nd' (c.locs h).1 (c.locs h).2.1 (c.locs h).2.2 (swaps_no hc) he
theorem Ct.par2 {j : Nat} {y : Str} {a b : Expr} {ms : List (Bool × ME)} {px py pt pos : Pos} {kt k2 pt2} (c : Ct g P w mg base k N sc own true gb X W) (hx : locB N sc i x = true) (hy : locB N sc j y = true) (hij : Nat.beq i j = false)
    (hw : decide (swapOf sc [.Name x px, .Name y py] [a, b] = some (some [x, y])) = true) (ha : SA g X W [a, b] (mOwns ms)) :
    SS g X W (.Assign [.Tuple [.Name x px, .Name y py] kt pt] (.Tuple [a, b] k2 pt2) pos) (sPar2 i j ms) :=
  ss_par2 (c.calm rfl) c.nd' (c.loc1 hx).1 (c.loc1 hy).1 (Nat.ne_of_beq_eq_false hij) (c.loc1 hx).2 (c.loc1 hy).2 ha (swapOf_ok c.kd' c.hsc (of_decide_eq_true hw))
/-- (a, b, ..) = value, no parts of a tuple written out -/
def plainRhs : Expr → Bool
  | .Tuple _ _ _ => false
  | e => notComp e
theorem Ct.tupS {es : List Expr} {kt : Nat} {pt pos : Pos} {sl : List Nat} {ts : List MG} {e : Expr} {m : ME} (c : Ct g P w mg base k N sc own true gb X W) (hs : SGs g X es sl ts) (hp : plainRhs e = true) (he : SE g X W e m) :
    SS g X W (.Assign [.Tuple es kt pt] e pos) (sAsg (gTu ts) m) := by
  refine ss_asgT (sg_tup c.K (c.calm rfl) hs) ?_ ?_ rfl he
  · cases e <;> first | rfl | (cases hp)
  · cases e <;> first | rfl | (cases hp)
theorem Ct.subS {o i : Expr} {mo mi m : ME} {e : Expr} {pos pos' : Pos} (c : Ct g P w mg base k N sc own cm gb X W) (hn : notSlice i = true) (ho : SE g X W o mo) (hi : SE g X W i mi) (hp : plainRhs e = true) (he : SE g X W e m) : SS g X W (.Assign [.Subscript o i pos'] e pos) (sAsg (gSubM mo mi) m) := by
  refine ss_asgT (sg_sub hn ho hi) ?_ ?_ rfl he
  · cases e <;> first | rfl | (cases hp)
  · cases e <;> first | rfl | (cases hp)
/-- a comprehension's block -/
theorem Ct.blk (c : Ct g P w mg base k N sc own true gb X W) {scope : Scope} (hk : scope.kind = .function) (s : Shared) (H : Hp) (C : Addr) (cl : List (Str × Addr)) (fp : List Addr) : Ct g P w mg base k N (relS scope sc) false true gb (blkX X scope s H C cl fp) W0 := by
  refine ⟨c.hP, c.hw, c.hK, c.hmg, c.hb, c.hN, c.nd, hk, ?_, fun _ => c.calm rfl, c.gd, fun _ => c.room rfl, c.hu, (fun h => by cases h), (fun h => by cases h), ?_, (fun h => by cases h), (fun h => by cases h), (fun h => by cases h)⟩
  · rw [← c.hsc]
    rfl
  · rintro u s' ⟨_, _, _, _, _, _, _, _, _, _, _, _, _, _, _, _, w⟩
    exact w.elim
def kindF : Scope → Bool := fun s => match s.kind with
  | .function => true
  | _ => false
theorem kindF_ok {s : Scope} (h : kindF s = true) : s.kind = .function := by
  unfold kindF at h
  split at h
  · assumption
  · cases h
theorem Ct.comp0 {tg iter elt : Expr} {scope : Scope} {mi : MI} {t : MG} {el : ME} {pos : Pos} {ow : List (Str × Nat)} {sl : List Nat} (c : Ct g P w mg base k N sc own true gb X W) (hi : SI g X W tg iter mi) (ok : blkC N sc scope ow = true) (hk : kindF scope = true)
    (hsl : sl.all (fun i => (ow.map (·.2)).contains i) = true) (hs : notSet iter = true)
    (hg : ∀ X W, Ct g P w mg base k N (relS scope sc) false true gb X W → SG g X tg sl t) (he : ∀ X W, Ct g P w mg base k N (relS scope sc) false true gb X W → SE g X W elt el) :
    SE g X W (.ListComp elt [⟨tg, iter, [], 0⟩] scope pos) (mComp mi t tTrue el (ow.map (·.2))) := by
  have hk' := kindF_ok hk
  exact se_comp (c.calm rfl) c.nd' hi (by rw [c.hN, c.hsc]; exact blkOk_by ok) (fun s H C cl fp => hg _ _ (c.blk hk' s H C cl fp)) (fun i h => List.contains_iff_mem.mp (List.all_eq_true.mp hsl i h)) .nil (fun s H C cl fp => he _ _ (c.blk hk' s H C cl fp)) hs
theorem Ct.comp1 {tg iter elt e : Expr} {scope : Scope} {mi : MI} {t : MG} {cm : MT} {el : ME} {pos : Pos} {ow : List (Str × Nat)} {sl : List Nat} (c : Ct g P w mg base k N sc own true gb X W) (hi : SI g X W tg iter mi) (ok : blkC N sc scope ow = true) (hk : kindF scope = true)
    (hsl : sl.all (fun i => (ow.map (·.2)).contains i) = true) (hs : notSet iter = true)
    (hg : ∀ X W, Ct g P w mg base k N (relS scope sc) false true gb X W → SG g X tg sl t) (ht : ∀ X W, Ct g P w mg base k N (relS scope sc) false true gb X W → STe g X W e cm) (he : ∀ X W, Ct g P w mg base k N (relS scope sc) false true gb X W → SE g X W elt el) :
    SE g X W (.ListComp elt [⟨tg, iter, [e], 0⟩] scope pos) (mComp mi t cm el (ow.map (·.2))) := by
  have hk' := kindF_ok hk
  exact se_comp (c.calm rfl) c.nd' hi (by rw [c.hN, c.hsc]; exact blkOk_by ok) (fun s H C cl fp => hg _ _ (c.blk hk' s H C cl fp)) (fun i h => List.contains_iff_mem.mp (List.all_eq_true.mp hsl i h)) (.one fun s H C cl fp => ht _ _ (c.blk hk' s H C cl fp)) (fun s H C cl fp => he _ _ (c.blk hk' s H C cl fp)) hs
end
section
variable {g : G} {P : Program} {w : World} {mg : Str → Option Value} {base : Heap} {k : Nat} {N : List Str} {sc : Scope} {own cm gb : Bool} {X : Cx} {W : WX} {i : Nat} {x : Str}
theorem Ct.hu64 (c : Ct g P w mg base k N sc own cm gb X W) : X.A.units + 64 < cLine := by have := c.hu; omega
theorem Ct.hu65 (c : Ct g P w mg base k N sc own cm gb X W) : X.A.units + 65 < cLine := by have := c.hu; omega
/-- a tuple written out to a tuple, one by one -/
theorem Ct.tupT {es vs : List Expr} {kt k2 : Nat} {pt p2 pos : Pos} {sl : List Nat} {ts : List MG} {m : ME} (c : Ct g P w mg base k N sc own true gb X W) (hs : SGs g X es sl ts) (hw : decide (swapOf sc es vs = some none) = true) (he : SE g X W (.Tuple vs k2 p2) m) :
    SS g X W (.Assign [.Tuple es kt pt] (.Tuple vs k2 p2) pos) (sAsg (gTu ts) m) :=
  ss_asgT (sg_tup c.K (c.calm rfl) hs) rfl (swapOf_ok c.kd' c.hsc (of_decide_eq_true hw)) rfl he
end
/-- an object of two cells leaves a def: it comes behind its cells -/
def finB2 (n : Nat) (μ : Sto) (c : Nat) (f1 f2 : Str) (i j : Nat) : Option R := match μ[i]?, μ[j]? with
  | some (.dct kvs), some (.lst ds) => if n ≤ i ∧ n ≤ j ∧ i ≠ j then some (.ok (.cell (n + 2)), μ.take n ++ [.dct kvs, .lst ds, .bk c [(f1, n), (f2, n + 1)]]) else none
  | _, _ => none
def finR (n : Nat) (μ : Sto) : S → Option R
  | .cell k => if k < n then some (.ok (.cell k), μ.take n) else (match μ[k]? with
    | some (.lst ds) => some (.ok (.fr ds), μ.take n)
    | some (.frz d) => some (.ok (.val d), μ.take n)
    | some (.bk c [(f1, i), (f2, j)]) => finB2 n μ c f1 f2 i j
    | _ => none)
  | .pot (some j) _ ds => if j < n then none else (match μ[j]? with
    | some (.lst is) => some (.ok (.pot none is ds), μ.take n)
    | _ => none)
  | s => some (.ok s, μ.take n)
def finF (n : Nat) : Option (Fl × En × Sto) → Option R
  | some (.nx, _, μ') => some (.ok (.val .non), μ'.take n)
  | some (.rt s, _, μ') => finR n μ' s
  | some (.ex x, _, μ') => some (.error x, μ'.take n)
  | _ => none
def fnSem (nN : Nat) (body : MS) : List S → Sto → Option R := fun ss μ => finF μ.length (body (ss.map some ++ List.replicate (nN - ss.length) none) μ)
section
variable {gb : Bool} {g : G} {P : Program} {w : World} {mg : Str → Option Value} {base : Heap} {k : Nat} {N ps : List Str} {x qual : Str} {params : Arguments} {body : List Stmt} {scope : Scope} {dvs : List V} {kws : List (Str × V)} {f : Addr} {fd : FuncData} {code : MS}
theorem rss_at {F : Hp} {as : List Addr} {ss : List S} {vs : List V} {i : Nat} {s : S} (r : RSs g F as ss vs) (h : ss[i]? = some s) : ∃ v, vs[i]? = some v ∧ RS g F as s v := paired_get r h
theorem er_start {F : Hp} {as : List Addr} {ss : List S} {vs : List V} (r : RSs g F as ss vs) : ER g F as (ss.map some ++ List.replicate (N.length - ss.length) none) (L2.start N vs) := by
  have hl := Paired.length r
  refine ⟨?_, fun i s h => ?_⟩
  · unfold L2.start
    rw [List.length_append, List.length_append, List.length_map, List.length_map, List.length_replicate, List.length_replicate, hl]
    exact Nat.le_refl _
  · by_cases hi : i < ss.length
    · rw [List.getElem?_append_left (by rw [List.length_map]; exact hi), List.getElem?_map] at h
      cases e : ss[i]? with
      | none => rw [e] at h; cases h
      | some s' =>
        rw [e] at h
        cases h
        obtain ⟨v, e1, e2⟩ := rss_at r e
        refine ⟨v, ?_, e2⟩
        unfold L2.start
        rw [List.getElem?_append_left (by rw [List.length_map, ← hl]; exact hi), List.getElem?_map, e1]
        rfl
    · rw [List.getElem?_append_right (by rw [List.length_map]; omega)] at h
      have := List.mem_of_getElem? h
      rw [List.mem_replicate] at this
      exact absurd this.2 (by simp)
theorem ext_back {F F' : Hp} {as as' : List Addr} (x : Ext F as F' as') : Ext F as F' as := ⟨x.1, [], by rw [List.append_nil]⟩
/-- what is known of the code object of the def at f -/
def CodeAt (K : PySem.W.Frag) (f : Addr) (qual : Str) (cdv : Value) : Prop := ∃ (oc : Value) (od : Option Addr) (fd : FuncData) (sl : Array (Option Value)), K.lookup f = some ⟨oc, od, .func fd, sl⟩ ∧ fd.code = cdv ∧ PySem.W.codeIn K cdv qual = true
/-- a def's promise from its body -/
theorem by_body {P : Program} {w : World} {K : PySem.W.Frag} {mg : Str → Option Value} {base : Heap} {x qual : Str} {params : Arguments} {body : List Stmt} {scope : Scope} {dvs : List V} {kws : List (Str × V)} {f : Addr} {fd : FuncData} {gb : Bool} {cx : CXT} {N ps : List Str} {k : Nat} {sp : Sp}
    (F : FunD K x qual params body scope dvs kws f fd) (S : FnScope N ps scope) (wide : ∀ vs H Q E, sp vs H Q E → vs.length = ps.length)
    (run : ∀ (cdv : Value), CodeAt K f qual cdv → ∀ (A : Around) (outer : List Env) (s : Shared) (H : Hp) (vs : List V) (Q : VK) (E : XK), Room k (A.deeper (PyProof.Rows.envOfC qual scope s.heap.objs.size f cdv)) → (gb = true → A.guards = some []) → sp vs H Q E →
      ∃ t, PSs (cxOf cx P w K mg base N qual scope f cdv A outer s H E) body t ∧ t { nx := fun _ H' => Q .non H', rt := Q } (start N vs) H) : FnG gb P w K mg base cx (k + 1) f fd ps sp := by
  obtain ⟨tv, dk, dfv, kwv, dc, pmv, an, cdv, ctv, slots, rfl, found, codeAt, _, _⟩ := F.ex
  refine ⟨wide, fun A fr st H ar us vs Q E room gds en bd rv ask => ?_⟩
  have inHeap : K.In st.heap := en.mod.kin.keeps fun b o q => (en.bs b o q).1
  have noLim : st.heap.NoLimit := en.mod.nolimit.keeps fun b o q => (en.bs b o q).1
  have parKind : ∀ y ∈ ps.zip us, scope.names.lookup y.1 = some .local ∨
      (scope.names.lookup y.1 = some .cell ∧ ((cellsFrom (st.heap.objs.size + 1) scope.names []).lookup y.1).isSome = true) := by
    rintro ⟨n, v⟩ hy
    rcases S.par n (List.of_mem_zip hy).1 with q | q
    · exact Or.inl q
    · exact Or.inr ⟨q, PySem.W.cellsFrom_some _ _ _ (Or.inl q)⟩
  refine codeAny_call_function room.depth (inHeap _ _ found) rfl S.co S.gen rfl (PySem.W.codeRec_of inHeap codeAt) (bd _ _ _ _ ?_)
  refine wpAny_newFunctionEnv_cells S.kind parKind fun env eq s1 x => ?_
  subst eq
  refine ⟨noLim.keeps x.toInCall.keep, codeAny_func ?_⟩
  obtain ⟨t, steps, goal⟩ := run cdv ⟨_, _, _, _, found, rfl, codeAt⟩ A fr st H vs Q E (room.deeper _) gds ask
  have I0 := inv_start (CX := cx) (E := E) (cd := cdv) S room.hd en (wide _ _ _ _ ask) rv x
  refine wpAny_mono (steps.run [] s1 (start N vs) H _ I0 goal) (fun fl s' told => ?_) fun _ _ told => told
  cases fl with
  | next =>
    obtain ⟨σ', H', J, q⟩ := told
    exact ⟨V.non, H', J.os, J.bare, J.base, J.hok, (rfl : RelV V.non Value.none), q⟩
  | ret u =>
    obtain ⟨v, σ', H', J, rv', q⟩ := told
    exact ⟨v, H', J.os, J.bare, J.base, J.hok, rv', q⟩
  | brk => exact (told.elim fun _ z => z.elim fun _ z => z.2.elim)
  | cont => exact (told.elim fun _ z => z.elim fun _ z => z.2.elim)
theorem fn_core {t : TS} {vs : List V} {H : Hp} {Q : VK} {E : XK} (hsp : spOf g ps.length (fnSem N.length code) vs H Q E)
    (hrun : ∀ (F : Hp) (as : List Addr) (ρ : En) (μ : Sto) (σ : L2.St) (H : Hp) (D : Ends) (fl : Fl) (ρ' : En) (μ' : Sto), code ρ μ = some (fl, ρ', μ') → SR g F as μ H → ER g F as ρ σ → PostS g (fun cls d _ H => E cls d H) F as D fl ρ' μ' → t D σ H) :
    t { nx := fun _ H' => Q .non H', rt := Q } (start N vs) H := by
  obtain ⟨hl, F0, as, ss, μ, r, μ', sr, rs, hs, post⟩ := hsp
  have er := er_start (N := N) rs
  unfold fnSem at hs
  cases e : code (ss.map some ++ List.replicate (N.length - ss.length) none) μ with
  | none => rw [e] at hs; cases hs
  | some z =>
    obtain ⟨fl, ρ', μ2⟩ := z
    rw [e] at hs
    refine hrun F0 as _ μ _ H _ fl ρ' μ2 e sr er ?_
    cases fl with
    | nx =>
      cases hs
      exact fun F' as' σ' H' x' sr' er' => post F' as .non H' (ext_back x') (sr.back x' sr') ra_non
    | bk => cases hs
    | ct => cases hs
    | ex x =>
      cases hs
      exact fun F' as' σ' cls d H' x' sr' er' rx => post F' as cls d H' (ext_back x') (sr.back x' sr') rx
    | rt s =>
      intro F' as' v H' x' sr' ra'
      have hs : finR μ.length μ2 s = some (r, μ') := hs
      have hb' := sr.back x' sr'
      cases s with
      | val d =>
        cases hs
        exact post F' as v H' (ext_back x') hb' ra'
      | fr ds =>
        cases hs
        obtain ⟨p, vs', h1, h2, h3, h4, h5⟩ := (show ∃ p vs, v = .ref p ∧ H' p = some (.lst vs) ∧ F' p = none ∧ p ∉ as' ∧ Reps g F' ds vs from ra')
        refine post F' as v H' (ext_back x') hb' ⟨p, vs', h1, h2, h3, fun hm => h4 ?_, h5⟩
        obtain ⟨_, l, rfl⟩ := x'
        exact List.mem_append_left _ hm
      | cell j =>
        obtain ⟨a, ha, rfl⟩ := (show ∃ a, as'[j]? = some a ∧ v = .ref a from ra')
        unfold finR at hs
        dsimp only at hs
        by_cases hj : j < μ.length
        · rw [if_pos hj] at hs
          cases hs
          refine post F' as _ H' (ext_back x') hb' ⟨a, ?_, rfl⟩
          obtain ⟨_, l, rfl⟩ := x'
          rw [List.getElem?_append_left (by rw [sr.len]; exact hj)] at ha
          exact ha
        · rw [if_neg hj] at hs
          split at hs
          · rename_i ds hds
            cases hs
            obtain ⟨fa, vs', hv, rv⟩ := sr'.cells _ _ _ ha hds
            refine post F' as _ H' (ext_back x') hb' (ra_lst hv fa (fun hm => ?_) rv)
            obtain ⟨i, hi⟩ := List.getElem?_of_mem hm
            have hil : i < as.length := (List.getElem?_eq_some_iff.mp hi).1
            have hi' : as'[i]? = some a := by
              obtain ⟨_, l, rfl⟩ := x'
              rw [List.getElem?_append_left hil]
              exact hi
            have := nd_at sr'.nd hi' ha
            rw [sr.len] at hil
            omega
          · rename_i d hd
            cases hs
            exact post F' as _ H' (ext_back x') hb' (sr'.cells _ _ _ ha hd)
          · rename_i c f1 i f2 j2 hbk
            have nin : ∀ {i : Nat} {b : Addr}, as'[i]? = some b → μ.length ≤ i → b ∉ as := fun {i b} h1 h2 hm => by
              obtain ⟨i', hi⟩ := List.getElem?_of_mem hm
              have hil : i' < as.length := (List.getElem?_eq_some_iff.mp hi).1
              have hi' : as'[i']? = some b := by
                obtain ⟨_, l, rfl⟩ := x'
                rw [List.getElem?_append_left hil]
                exact hi
              have := nd_at sr'.nd hi' h1
              rw [sr.len] at hil
              omega
            obtain ⟨fa, dx, bs, hins, hbl, hix⟩ := sr'.cells _ _ _ ha hbk
            unfold finB2 at hs
            split at hs
            · rename_i kvs ds h1 h2
              split at hs
              · rename_i hz
                cases hs
                obtain ⟨b1, g1, g2⟩ := hix 0 _ rfl
                obtain ⟨b2, g3, g4⟩ := hix 1 _ rfl
                have t1 : as'[i]? = some b1 := by
                  have hk := (List.getElem?_eq_some_iff.mp g2).1
                  rw [List.length_take] at hk
                  rw [List.getElem?_take_of_lt (by dsimp only at hk; omega)] at g2
                  exact g2
                have t2 : as'[j2]? = some b2 := by
                  have hk := (List.getElem?_eq_some_iff.mp g4).1
                  rw [List.length_take] at hk
                  rw [List.getElem?_take_of_lt (by dsimp only at hk; omega)] at g4
                  exact g4
                obtain ⟨fb1, ws, hw, kr⟩ := sr'.cells _ _ _ t1 h1
                obtain ⟨fb2, vs', hv, rv⟩ := sr'.cells _ _ _ t2 h2
                have hbs : bs = [b1, b2] := by
                  match bs, hbl, g1, g3 with
                  | [_, _], _, g1, g3 =>
                    simp only [List.getElem?_cons_zero, Option.some.injEq, List.getElem?_cons_succ] at g1 g3
                    rw [g1, g3]
                have n12 : b2 ≠ b1 := fun e => hz.2.2 (nd_at sr'.nd t1 (e ▸ t2))
                have ne1 : a ≠ b1 := fun e => by
                  rw [e, hw] at hins
                  cases hins
                have ne2 : a ≠ b2 := fun e => by
                  rw [e, hv] at hins
                  cases hins
                obtain ⟨s1, y1⟩ := hb'.push (c := .dct kvs) hw (nin t1 hz.1) ⟨fb1, ws, hw, kr⟩
                obtain ⟨s2, y2⟩ := s1.push (c := .lst ds) hv (fun hm => by
                  rcases List.mem_append.mp hm with e | e
                  · exact nin t2 hz.2.1 e
                  · exact n12 (by simpa using e)) ⟨fb2, vs', hv, rv⟩
                have hl0 : (List.take μ.length μ2).length = as.length := hb'.len.symm
                obtain ⟨s3, y3⟩ := s2.push (c := .bk c [(f1, μ.length), (f2, μ.length + 1)]) hins (fun hm => by
                  rcases List.mem_append.mp hm with e | e
                  · rcases List.mem_append.mp e with e | e
                    · exact nin ha (by omega) e
                    · exact ne1 (by simpa using e)
                  · exact ne2 (by simpa using e)) ⟨fa, dx, [b1, b2], by rw [← hbs]; exact hins, rfl, fun q r hq => by
                    match q, hq with
                    | 0, hq =>
                      cases hq
                      exact ⟨b1, rfl, by rw [← sr.len, List.append_assoc, List.getElem?_append_right (Nat.le_refl _), Nat.sub_self]; rfl⟩
                    | 1, hq =>
                      cases hq
                      exact ⟨b2, rfl, by rw [← sr.len, List.append_assoc, List.getElem?_append_right (Nat.le_succ _), show as.length.succ - as.length = 1 by omega]; rfl⟩
                    | q + 2, hq => simp at hq⟩
                have em : List.take μ.length μ2 ++ [C.dct kvs] ++ [C.lst ds] ++ [C.bk c [(f1, μ.length), (f2, μ.length + 1)]] = List.take μ.length μ2 ++ [C.dct kvs, C.lst ds, C.bk c [(f1, μ.length), (f2, μ.length + 1)]] := by
                  rw [List.append_assoc, List.append_assoc]; rfl
                rw [em] at s3
                refine post F' _ _ H' (((ext_back x').trans y1).trans (y2.trans y3)) s3 ⟨a, ?_, rfl⟩
                rw [List.append_assoc, List.append_assoc, ← sr.len, List.getElem?_append_right (by omega), Nat.add_sub_cancel_left]
                rfl
              · cases hs
            · cases hs
          · cases hs
      | any =>
        cases hs
        exact post F' as v H' (ext_back x') hb' trivial
      | pot jo is ds =>
        cases jo with
        | none =>
          cases hs
          obtain ⟨p, q, vs, us, e1, e2, e3, e4, e5, e6, e7, e8, e9, e10⟩ := (show ∃ p q vs us, v = .ref p ∧ H' p = some (.lst (.ref q :: us)) ∧ F' p = none ∧ p ∉ as' ∧ H' q = some (.lst vs) ∧ F' q = none ∧ q ∉ as' ∧ p ≠ q ∧ Reps g F' is vs ∧ Reps g F' ds us from ra')
          have sub : ∀ z, z ∈ as → z ∈ as' := fun z hz => by
            obtain ⟨_, l, rfl⟩ := x'
            exact List.mem_append_left _ hz
          exact post F' as v H' (ext_back x') hb' (show ∃ p q vs us, v = .ref p ∧ H' p = some (.lst (.ref q :: us)) ∧ F' p = none ∧ p ∉ as ∧ H' q = some (.lst vs) ∧ F' q = none ∧ q ∉ as ∧ p ≠ q ∧ Reps g F' is vs ∧ Reps g F' ds us from ⟨p, q, vs, us, e1, e2, e3, fun z => e4 (sub _ z), e5, e6, fun z => e7 (sub _ z), e8, e9, e10⟩)
        | some j =>
          obtain ⟨p, b, us, e1, e2, e3, e4, e5, e6⟩ := (show ∃ p b us, v = .ref p ∧ H' p = some (.lst (.ref b :: us)) ∧ F' p = none ∧ p ∉ as' ∧ as'[j]? = some b ∧ Reps g F' ds us from ra')
          have sub : ∀ z, z ∈ as → z ∈ as' := fun z hz => by
            obtain ⟨_, l, rfl⟩ := x'
            exact List.mem_append_left _ hz
          unfold finR at hs
          dsimp only at hs
          by_cases hj : j < μ.length
          · rw [if_pos hj] at hs
            cases hs
          · rw [if_neg hj] at hs
            split at hs
            · rename_i is' his
              cases hs
              obtain ⟨fb, vs', hv, rv⟩ := sr'.cells _ _ _ e5 his
              have nb : b ∉ as := fun hm => by
                obtain ⟨i, hi⟩ := List.getElem?_of_mem hm
                have hil : i < as.length := (List.getElem?_eq_some_iff.mp hi).1
                have hi' : as'[i]? = some b := by
                  obtain ⟨_, l, rfl⟩ := x'
                  rw [List.getElem?_append_left hil]
                  exact hi
                have := nd_at sr'.nd hi' e5
                rw [sr.len] at hil
                omega
              exact post F' as v H' (ext_back x') hb' (show ∃ p q vs us, v = .ref p ∧ H' p = some (.lst (.ref q :: us)) ∧ F' p = none ∧ p ∉ as ∧ H' q = some (.lst vs) ∧ F' q = none ∧ q ∉ as ∧ p ≠ q ∧ Reps g F' is' vs ∧ Reps g F' ds us from ⟨p, b, vs', us, e1, e2, e3, fun z => e4 (sub _ z), hv, fb, nb, fun z => e4 (z ▸ List.mem_of_getElem? e5), rv, e6⟩)
            · cases hs
theorem fn_okC (F : FunD g.K x qual params body scope dvs kws f fd) (S : FnScope N ps scope) (hb : ∀ X W, Ct g P w mg base k N scope true true gb X W → CodeAt g.K f qual X.env.code → X.env.qual = qual ++ ".<locals>." → SB g X W body code) :
    FnG gb P w g.K mg base (CX P w) (k + 1) f fd ps (spOf g ps.length (fnSem N.length code)) := by
  refine by_body F S (fun vs H Q E h => h.1) fun cdv hcd A outer s H vs Q E hr hgd hsp => ?_
  refine ⟨_, pss_wp, ?_⟩
  have c : Ct g P w mg base k N scope true true gb (cxOf (CX P w) P w g.K mg base N qual scope f cdv A outer s H E) (fun cls d _ H => E cls d H) :=
    ⟨rfl, rfl, rfl, rfl, rfl, rfl, S.nd, S.kind, rfl, fun _ => rfl, hgd, fun _ => hr, Nat.lt_of_le_of_lt (Nat.add_le_add_right (Nat.le_add_right _ _) 200) hr.un, fun _ => rfl, fun _ => rfl, takes_of rfl rfl rfl rfl, fun _ _ => rfl, fun _ _ => passes_of rfl, fun _ => rfl⟩
  exact fn_core hsp (hb _ _ c hcd rfl).run
theorem fn_ok (F : FunD g.K x qual params body scope dvs kws f fd) (S : FnScope N ps scope) (hb : ∀ X W, Ct g P w mg base k N scope true true gb X W → SB g X W body code) :
    FnG gb P w g.K mg base (CX P w) (k + 1) f fd ps (spOf g ps.length (fnSem N.length code)) := fn_okC F S fun X W c _ _ => hb X W c
theorem bnd0 {n : Nat} {ks : List Str} (F : FunD g.K x qual params body scope [] [] f fd)
    (h : ∀ (kV doc pm : Value) (an : Option Addr) (cdv ct : Value) (us ws : List Value), us.length = n → ws.length = ks.length → ∃ b, bindG ks us ws [] ps.length ps 0 = some b ∧ bindArgs (PySem.W.fnOf x qual params body scope .none kV doc pm an cdv ct) ⟨us, ks.zip ws⟩ = pure (ps.zip b)) : Bnd g.K fd ps n ks [] := by
  obtain ⟨oc, od, dV, kV, doc, pm, an, cdv, ct, osl, rfl, lk, hcd, hD, hK⟩ := F.ex
  rcases hD with ⟨_, rfl⟩ | ⟨e, _⟩
  · refine ⟨[], .nil, fun s us ws _ h1 h2 => ?_⟩
    obtain ⟨b, e1, e2⟩ := h kV doc pm an cdv ct us ws h1 h2
    exact ⟨b, e1, .of_eq e2⟩
  · exact absurd rfl e
theorem bnd1 {n : Nat} {ks : List Str} (F : FunD g.K x qual params body scope dvs [] f fd) (hd : dvs ≠ [])
    (h : ∀ (T : Addr) (kV doc pm : Value) (an : Option Addr) (cdv ct : Value) (us its ws : List Value), us.length = n → its.length = dvs.length → ws.length = ks.length → ∃ b, bindG ks us ws its ps.length ps 0 = some b ∧
      ∃ k, bindArgs (PySem.W.fnOf x qual params body scope (.ref T) kV doc pm an cdv ct) ⟨us, ks.zip ws⟩ = seqItems? (.ref T) >>= k ∧ k (some its.toArray) = pure (ps.zip b)) : Bnd g.K fd ps n ks dvs := by
  obtain ⟨oc, od, dV, kV, doc, pm, an, cdv, ct, osl, rfl, lk, hcd, hD, hK⟩ := F.ex
  rcases hD with ⟨e, _⟩ | ⟨_, T, o, its, m, rfl, lT, oT, rT⟩
  · exact absurd e hd
  · refine ⟨its, rT, fun s us ws X h1 h2 => ?_⟩
    obtain ⟨b, e1, k, e2, e3⟩ := h T kV doc pm an cdv ct us its ws h1 rT.length.symm h2
    refine ⟨b, e1, BindsTo.of_looks fun M => ?_⟩
    rw [e2]
    exact looks_items X lT oT (PySem.W.Looks.of_pure e3)
def BndAll (K : PySem.W.Frag) (fd : FuncData) (ps : List Str) (dvs : List V) : List (Nat × List Str) → Prop
  | [] => True
  | q :: r => Bnd K fd ps q.1 q.2 dvs ∧ BndAll K fd ps dvs r
theorem BndAll.get {K : PySem.W.Frag} {fd : FuncData} {ps : List Str} {dvs : List V} : ∀ {sh : List (Nat × List Str)}, BndAll K fd ps dvs sh → ∀ q ∈ sh, Bnd K fd ps q.1 q.2 dvs
  | [], _, q, hq => by cases hq
  | _ :: _, h, q, hq => by
    rcases List.mem_cons.mp hq with e | hq
    · rw [e]; exact h.1
    · exact h.2.get q hq
def dvOk : D → Bool
  | .non => true
  | .bl _ => true
  | .int _ => true
  | .str _ => true
  | .ty _ => true
  | _ => false
theorem dv_rep {F : Hp} {d : D} (h : dvOk d = true) : Rep g F d ((dvOf d).v g.K) := by
  cases d <;> first | (unfold Rep; rfl) | cases h
theorem dvs_rep {F : Hp} : ∀ {ds : List D}, ds.all dvOk = true → Reps g F ds ((ds.map dvOf).map (He.Dv.v g.K))
  | [], _ => Reps.nil
  | d :: ds, h => by
    rw [List.all_cons, Bool.and_eq_true] at h
    exact Reps.cons (dv_rep h.1) (dvs_rep h.2)
theorem FnC.of {dfl : List D} {sh : List (Nat × List Str)} (h : ∃ fd, FunD g.K x qual params body scope ((dfl.map dvOf).map (He.Dv.v g.K)) [] f fd) (hd : dfl.all dvOk = true) (S : FnScope N ps scope) (hb : ∀ X W, Ct g P w mg base k N scope true true gb X W → SB g X W body code)
    (hB : ∀ fd, FunD g.K x qual params body scope ((dfl.map dvOf).map (He.Dv.v g.K)) [] f fd → BndAll g.K fd ps ((dfl.map dvOf).map (He.Dv.v g.K)) sh) : FnC gb g P w mg base ⟨ps, dfl, fnSem N.length code⟩ (k + 1) f sh := by
  obtain ⟨fd, F⟩ := h
  exact ⟨fd, _, fn_ok F S hb, (hB fd F).get, fun _ => dvs_rep hd⟩
end
end Sz
set_option Elab.async false
set_option linter.all false
set_option maxRecDepth 100000
set_option maxHeartbeats 4000000
namespace Sz
open PySem PySem.Spec L2
section
variable {g : G} {P : Program} {w : World} {mg : Str → Option Value} {base : Heap} {k : Nat} {N : List Str} {sc : Scope} {own cm gb : Bool} {X : Cx} {W : WX} {i : Nat} {x : Str}
structure MtC (gb : Bool) (g : G) (P : Program) (w : World) (mg : Str → Option Value) (base : Heap) (mt : Nat → Option FnI) (m : Str) (k : Nat) (sh : List (Nat × List Str)) : Prop where
  ok : ∀ c fi, mt c = some fi → ∃ f, FnC gb g P w mg base fi k f sh ∧ Cls g.K (g.cad c) ∧ Meth g.K (g.cad c) m f ∧ (g.fl c).contains m = false
theorem Ct.meth {gc : Bool} {mt : Nat → Option FnI} {a : Expr} {ma : ME} {m : Str} {n j : Nat} {ks : List Str} {sh : List (Nat × List Str)} {apos pos : Pos} {es : List Expr} {kws : List Keyword} {ms kms : List ME} (c : Ct g P w mg base k N sc own true gb X W) (M : MtC gc g P w mg base mt m j sh) (hgd : leB gc gb = true)
    (hj : Nat.ble j k = true) (hs : sh.contains (n + 1, ks) = true) (hb : recvOk a = true) (hf : methForm apos pos es kws = true) (hks : kwNames kws = some ks) (hself : SE g X W a ma) (ha : SAs g X W es ms) (hkw : SK g X W kws (mArgs kms)) :
    SE g X W (.Call (.Attribute a m apos) es kws pos) (mMeth m mt n ks ma ms kms) := by
  refine se_meth (k := j) ⟨fun cc fi h => ?_⟩ ((c.room rfl).mono (Nat.le_of_ble_eq_true hj)) (fun e => c.gd (leB_ok hgd e)) c.tk hb hf hks hself ha hkw
  obtain ⟨f, h1, h2, h3, h4⟩ := M.ok cc fi h
  refine ⟨f, c.fnK h1 hs, ?_, ?_, fun hm => ?_⟩
  · rw [c.hK]; exact h2
  · rw [c.hK]; exact h3
  · rw [List.contains_iff_mem.mpr hm] at h4; cases h4
/-- o.f -/
theorem Ct.attr {a : Expr} {ma : ME} {f : Str} {fls : List (List Str)} {pos : Pos} (c : Ct g P w mg base k N sc own cm gb X W) (ff : FldF g fls) (hno : ∀ c, c < fls.length → NoAttr g.K (g.cad c) f) (ha : SE g X W a ma) (hs : notCall a = true) : SE g X W (.Attribute a f pos) (mAttr fls f ma) :=
  se_attr c.K ff hno ha hs
theorem Ct.fld {o e : Expr} {mo m : ME} {f : Str} {fls : List (List Str)} {pos pos' : Pos} (c : Ct g P w mg base k N sc own cm gb X W) (ff : FldF g fls) (hno : ∀ c, c < fls.length → NoAttr g.K (g.cad c) f) (ho : SE g X W o mo) (he : SE g X W e m) : SS g X W (.Assign [.Attribute o f pos'] e pos) (sFldM fls.length f mo m) :=
  ss_fld c.K (fun n h => ⟨ff.cls n h, hno n h⟩) ho he
theorem FnC.sub {fi : FnI} {f : Addr} {sh sh' : List (Nat × List Str)} (F : FnC gb g P w mg base fi k f sh) (j : Nat) (hj : Nat.ble k j = true) (h : sh'.all (fun q => sh.contains q) = true) : FnC gb g P w mg base fi j f sh' := by
  obtain ⟨fd, dvs, h1, h2, h3⟩ := F.ok
  exact ⟨fd, dvs, h1.at_most (Nat.le_of_ble_eq_true hj), fun q hq => h2 q (List.contains_iff_mem.mp (List.all_eq_true.mp h q hq)), h3⟩
end
/-- the text's things by their names: classes, their fields -/
def gOf (cls : List Str) (fls : List (List Str)) (K : PySem.W.Frag) (fns : List Str := []) (tb : List (Addr × Str) := []) : G := ⟨K, fun c => He.ga K (cls.getD c ""), fun c => fls.getD c [], fun n => He.ga K (fns.getD n ""), tb⟩
section
variable {K : PySem.W.Frag} {h : Heap} {mg : Str → Option Value} {frees globs : List Str} {rest : List He.Fa} {fn : List He.DefD}
theorem says_all (S : He.SaysD (faOf frees globs rest) fn K) {f : He.Fa} (hf : f ∈ faOf frees globs rest) : f.ok K = true := by
  have c1 := (He.ba (show ((faOf frees globs rest).all (fun f => f.ok K) && fn.all fun d => d.ok K) = true from congrArg (fun z : He.AlD => z.1) S)).1
  exact List.all_eq_true.mp c1 f hf
theorem tb_of {g : G} (hg : g.K = K) (X : K.In h) (G : h.Ns mainGlobals mg) (S : He.SaysD (faOf frees globs rest) fn K) : Tb g mg frees globs := by
  subst hg
  refine ⟨fun x hx => He.free_ok X G (says_all S ?_), fun x hx => ⟨He.glo_ok X G (says_all S ?_), He.keep_ok (says_all S ?_)⟩⟩
  · exact List.mem_append_left _ (List.mem_map.mpr ⟨x, List.contains_iff_mem.mp hx, rfl⟩)
  · exact List.mem_append_right _ (List.mem_append_left _ (List.mem_map.mpr ⟨x, List.contains_iff_mem.mp hx, rfl⟩))
  · exact List.mem_append_right _ (List.mem_append_right _ (List.mem_append_left _ (List.mem_map.mpr ⟨x, List.contains_iff_mem.mp hx, rfl⟩)))
theorem rest_ok (S : He.SaysD (faOf frees globs rest) fn K) (i : Nat) {f : He.Fa} (hi : rest[i]? = some f) : f.ok K = true :=
  says_all S (List.mem_append_right _ (List.mem_append_right _ (List.mem_append_right _ (List.mem_of_getElem? hi))))
end
/-- all but the tables -/
def cutT (H : Hp) : Hp := fun b => match H b with
  | some (.tbl _) => none
  | o => o
theorem cutT_sub {H : Hp} : Same (cutT H) H := fun b u e => by
  unfold cutT at e
  split at e
  · cases e
  · exact e
theorem cutT_at {H : Hp} {b : Addr} {u : HO} (h : H b = some u) (n : ∀ ps, u ≠ .tbl ps) : cutT H b = some u := by
  unfold cutT
  split
  · rename_i ps e
    rw [h] at e
    exact absurd (Option.some.inj e) (n ps)
  · exact h
theorem cutT_sql {K : PySem.W.Frag} {H : Hp} {a : Addr} {xs : List V} (h : SqL K H a xs) : SqL K (cutT H) a xs := by
  rcases h with (h | ⟨o, h⟩) | h
  · exact .inl (.inl (cutT_at h (fun ps z => by cases z)))
  · exact .inl (.inr ⟨o, cutT_at h (fun ps z => by cases z)⟩)
  · exact .inr h
theorem sr_empty {g : G} {H : Hp} (ht : ∀ p ∈ g.tbs, H p.1 = some (.tbl #[])) : SR g (cutT H) [] [] H := ⟨cutT_sub, rfl, fun i a c h => by simp at h, .nil, fun a h => by simp at h, fun p hp => ⟨#[], ht p hp, True.intro, ⟨by unfold cutT; rw [ht p hp], List.not_mem_nil⟩, fun pos cv hc => by
  have z : codeAmong pos [] = some cv := hc
  simp [codeAmong] at z⟩⟩
theorem sp_law {g : G} {sem : List S → Sto → Option R} {H : Hp} {a : Addr} {ns : List Int} (hS : SqL g.K H a (ns.map V.int)) (h : sem [.val (.scr ns)] [] = some (.ok (.val (.bl true)), [])) (ht : ∀ p ∈ g.tbs, H p.1 = some (.tbl #[]) := by intro p hp; cases hp) : spOf g 1 sem [.ref a] H (fun v _ => v = .bl true) fun _ _ _ => False := by
  refine ⟨rfl, cutT H, [], [.val (.scr ns)], [], _, _, sr_empty ht, .cons ?_ .nil, h, fun F' as' v H' _ _ r => ?_⟩
  · show Rep g (cutT H) (.scr ns) (.ref a)
    unfold Rep
    exact ⟨a, rfl, cutT_sql hS⟩
  · have r : Rep g F' (.bl true) v := r
    unfold Rep at r
    exact r
end Sz
set_option Elab.async false
set_option linter.all false
set_option maxRecDepth 100000
set_option maxHeartbeats 4000000
namespace Sz
open PySem PySem.Spec L2
abbrev mcan (X : Cx) (id : String) : V → List V → Hp → VK → Prop := fun x xs H Q => ∀ (pins : List (Addr × Obj)) (s : Shared) (σ : L2.St) (v : Value) (us : List Value), Inv X pins σ H s → RelV x v → Vals xs us → wpAny (model X.prog X.w) X.A (call (.builtin id) (v :: us)) (EP X pins σ Q) X.xe s
theorem mc {X : Cx} {id : String} {r : V → List V → Hp → VK → Prop} (h : MtR X id r) {x : V} {xs : List V} {H : Hp} {Q : VK} (q : r x xs H Q) : mcan X id x xs H Q := fun pins s σ v us I rx rs => h pins s σ H x xs v us Q I rx rs q
theorem eqB_ok {a b : Option Bool} (h : eqB a b = true) : a = b := by
  unfold eqB at h
  split at h
  · rw [beq_iff_eq.mp h]
  · rfl
  · cases h
theorem kitB_ok {cls fns : List Str} {fls : List (List Str)} {tb : List (Addr × Str)} {n m : Nat} {sub : Nat → Nat → Bool} {K : PySem.W.Frag} (h : kitB cls n m sub K = true) : KitF (gOf cls fls K fns tb) n m sub := by
  unfold kitB at h
  simp only [Bool.and_eq_true, List.all_eq_true, List.mem_range] at h
  obtain ⟨⟨h1, h2⟩, h3, h4, h5, h6⟩ := h
  refine ⟨fun c hc => He.cls_ok (h3 c hc).1, fun c hc => He.eqO_ok (h3 c hc).2.1, fun _ => He.eqO_ok h1, fun _ => eqB_ok h2, fun c hc => eqB_ok (h3 c hc).2.2, fun c T hc hT => eqB_ok (h4 c hc T (List.contains_iff_mem.mp hT)), fun c c' hc hc' => eqB_ok (h5 c hc c' hc'), fun c T hc hT => eqB_ok (h6 c hc T (List.contains_iff_mem.mp hT))⟩
theorem SaysZ.chk {chk : PySem.W.Frag → Bool} {fa : List He.Fa} {fn : List He.DefD} {K : PySem.W.Frag} (S : SaysZ chk fa fn K) : chk K = true :=
  (He.ba (He.ba (show ((chk K && fa.all fun f => f.ok K) && fn.all fun d => d.ok K) = true from congrArg (fun z : He.AlD => z.1) S)).1).1
theorem SaysZ.says {chk : PySem.W.Frag → Bool} {fa : List He.Fa} {fn : List He.DefD} {K : PySem.W.Frag} (S : SaysZ chk fa fn K) : He.SaysD fa fn K := by
  have h1 := He.ba (show ((chk K && fa.all fun f => f.ok K) && fn.all fun d => d.ok K) = true from congrArg (fun z : He.AlD => z.1) S)
  have h2 := (He.ba h1.1).2
  have h3 : fn.map (fun d => He.fnW K d.at_) = fn.map He.DefD.val := congrArg (fun z : He.AlD => z.2) S
  show ((fa.all fun f => f.ok K) && fn.all fun d => d.ok K, fn.map fun d => He.fnW K d.at_) = (true, fn.map He.DefD.val)
  rw [h2, h1.2, h3]
  rfl
end Sz
set_option Elab.async false
set_option linter.all false
set_option maxRecDepth 100000
set_option maxHeartbeats 4000000
namespace Sz
open PySem PySem.Spec L2
section
variable {g : G} {P : Program} {w : World} {mg : Str → Option Value} {base : Heap} {k : Nat} {N : List Str} {sc : Scope} {own cm gb : Bool} {X : Cx} {W : WX}
abbrev MO := En → Sto → Option (Except Ex (Option Int) × Sto)
def oNone : MO := fun _ μ => some (.ok none, μ)
def intK (μ : Sto) : Option D → Option (Except Ex (Option Int) × Sto)
  | some (.int i) => some (.ok (some i), μ)
  | _ => none
def oSome (m : ME) : MO := fun ρ μ => andThen (m ρ μ) fun s μ1 => intK μ1 (vw μ1 s)
def PostO (g : G) (W : WX) (F : Hp) (as : List Addr) (σ : L2.St) (Q : Option Int → Hp → Prop) : Except Ex (Option Int) → Sto → Prop
  | .ok o, μ' => ∀ F' as' H', Ext F as F' as' → SR g F' as' μ' H' → Q o H'
  | .error x, μ' => PErr g W F as σ x μ'
structure SO (g : G) (X : Cx) (W : WX) (oe : Option Expr) (m : MO) : Prop where
  ex : ∃ t : TO, PO X oe t ∧ ∀ (F : Hp) (as : List Addr) (ρ : En) (μ : Sto) (σ : L2.St) (H : Hp) (Q : Option Int → Hp → Prop) (r : Except Ex (Option Int)) (μ' : Sto), m ρ μ = some (r, μ') → SR g F as μ H → ER g F as ρ σ → PostO g W F as σ Q r μ' → t σ H Q
theorem so_none : SO g X W none oNone := ⟨_, po_none, fun F as ρ μ σ H Q r μ' h sr er post => by cases h; exact post F as H .refl sr⟩
theorem so_some {e : Expr} {m : ME} (he : SE g X W e m) : SO g X W (some e) (oSome m) := by
  refine ⟨_, po_some pe_wp, fun F as ρ μ σ H Q r μ' h sr er post => ?_⟩
  refine he.then_ (show andThen _ _ = some (r, μ') from h) sr er (fun x e => by subst e; exact post) fun s μ1 F1 as1 v H1 h1 x1 sr1 er1 ra1 => ?_
  unfold intK at h1
  split at h1
  · rename_i i hi
    cases h1
    cases vr_int (view_ra sr1 ra1 hi)
    exact ⟨i, rfl, post F1 as1 H1 x1 sr1⟩
  · cases h1
def cutD (xs : List D) (lo hi : Option Int) : List D := (xs.drop (HT.sIx xs.length 0 lo)).take (HT.sIx xs.length xs.length hi - HT.sIx xs.length 0 lo)
def dSl : D → Option Int → Option Int → Option S
  | .lst ds, lo, hi => some (.fr (cutD ds lo hi))
  | .tup ds, lo, hi => some (.val (.tup (cutD ds lo hi)))
  | .scr ns, lo, hi => some (.fr (cutD (ns.map .int) lo hi))
  | .str z, lo, hi => if z.length ≤ sizeLine then some (.val (.str (cutS z lo hi))) else none
  | _, _, _ => none
def slK (μ : Sto) (lo hi : Option Int) : Option D → Option R
  | some d => (match dSl d lo hi with
    | some s => some (.ok s, μ)
    | none => none)
  | none => none
def mSl (a : ME) (lo hi : MO) : ME := fun ρ μ => andThen (a ρ μ) fun s μ1 => andThen (lo ρ μ1) fun l μ2 => andThen (hi ρ μ2) fun u μ3 => slK μ3 l u (vw μ3 (rt s))
theorem cut_reps {F : Hp} {ds : List D} {vs : List V} {lo hi : Option Int} (r : Reps g F ds vs) : Reps g F (cutD ds lo hi) (cutV vs lo hi) := by
  unfold cutD cutV
  rw [r.length]
  exact (r.drop _).take _
theorem sl_or : SlR X (fun x lo hi H Q => (rSlL X.K x lo hi H Q ∨ rSlA X.K x lo hi H Q) ∨ rSlS x lo hi H Q) := (sl_list.or sl_tupA).or sl_str
theorem cutD_whole {ds : List D} {lo hi : Option Int} (h : HT.sIx ds.length 0 lo = 0 ∧ HT.sIx ds.length ds.length hi = ds.length) : cutD ds lo hi = ds := by
  unfold cutD
  rw [h.1, h.2, List.drop_zero, Nat.sub_zero, List.take_length]
theorem se_slice {a : Expr} {ma : ME} {lo hi : Option Expr} {ml mh : MO} {pos p2 : Pos} (hK : g.K = X.K) (ha : SE g X W a ma) (hl : SO g X W lo ml) (hh : SO g X W hi mh) : SE g X W (.Subscript a (.Slice lo hi none p2) pos) (mSl ma ml mh) := by
  obtain ⟨tl, pl, rl⟩ := hl.ex
  obtain ⟨th, ph, rh⟩ := hh.ex
  refine ⟨fun F as ρ μ σ H Q r μ' h sr er post => wE (pe_slice sl_or pe_wp pl ph) ?_⟩
  refine ha.then_ (show andThen _ _ = some (r, μ') from h) sr er (fun x e => by subst e; exact post) fun s μ1 F1 as1 v H1 h1 x1 sr1 er1 ra1 => ?_
  obtain ⟨F1', x1', sr1', rs1⟩ := root_ok sr1 ra1
  have er1' := er1.mono x1'
  rcases andThen_some h1 with ⟨x, e1, e2⟩ | ⟨l, μ2, e1, h2⟩
  · dsimp only at e1 e2
    subst e2
    exact rl F1' as1 ρ μ1 σ H1 _ (.error x) μ' e1 sr1' er1' (PErr.ext (x1.trans x1') post)
  refine rl F1' as1 ρ μ1 σ H1 _ (.ok l) μ2 e1 sr1' er1' fun F2 as2 H2 x2 sr2 => ?_
  have er2 := er1'.mono x2
  rcases andThen_some h2 with ⟨x, e3, e4⟩ | ⟨u, μ3, e3, h3⟩
  · dsimp only at e3 e4
    subst e4
    exact rh F2 as2 ρ μ2 σ H2 _ (.error x) μ' e3 sr2 er2 (PErr.ext ((x1.trans x1').trans x2) post)
  refine rh F2 as2 ρ μ2 σ H2 _ (.ok u) μ3 e3 sr2 er2 fun F3 as3 H3 x3 sr3 => ?_
  have rs3 := (rs1.mono x2).mono x3
  have xx := ((x1.trans x1').trans x2).trans x3
  unfold slK at h3
  split at h3
  · rename_i d hd
    have vd := view_rs sr3 rs3 hd
    unfold dSl at h3
    cases d with
    | lst ds =>
      cases h3
      obtain ⟨p, vs, rfl, hp, rv⟩ := vr_lst sr3 vd
      refine .inl (.inl ⟨p, vs, rfl, SqL.of hp, fun q hq => ?_⟩)
      obtain ⟨sr4, f4, n4⟩ := sr3.loose (o := .lst (cutV vs l u)) hq
      exact post F3 as3 (.ref q) _ xx sr4 (ra_lst upd_same f4 n4 (cut_reps rv))
    | tup ds =>
      cases h3
      obtain ⟨p, vs, rfl, hp, rv⟩ := vr_tup sr3 vd
      refine .inl (.inr ⟨p, vs, rfl, hK ▸ hp, fun hw => ?_, fun _ q hq => ?_⟩)
      · rw [rv.length] at hw
        refine post F3 as3 (.ref p) _ xx sr3 (show Rep g _ (.tup (cutD ds l u)) (.ref p) from ?_)
        rw [cutD_whole hw]
        rcases vd with ⟨_, _, _, e', _⟩ | h
        · cases e'
        · exact h
      · obtain ⟨sr4, x4, e4⟩ := sr3.frozen (o := .tup (cutV vs l u)) hq
        refine post _ as3 (.ref q) _ (xx.trans x4) sr4 (show Rep g _ (.tup (cutD ds l u)) (.ref q) from ?_)
        unfold Rep
        exact ⟨q, _, rfl, SqT.of e4, (cut_reps rv).mono x4.1⟩
    | scr ns =>
      cases h3
      obtain ⟨p, rfl, hp⟩ := vr_scr sr3 vd
      refine .inl (.inl ⟨p, _, rfl, hK ▸ hp, fun q hq => ?_⟩)
      obtain ⟨sr4, f4, n4⟩ := sr3.loose (o := .lst (cutV (ns.map V.int) l u)) hq
      exact post F3 as3 (.ref q) _ xx sr4 (ra_lst upd_same f4 n4 (cut_reps ints_rep))
    | str z =>
      dsimp only at h3
      split at h3
      · rename_i s hs
        split at hs
        · rename_i hz
          cases hs
          cases h3
          cases vr_str vd
          refine .inr ⟨z, rfl, hz, post F3 as3 (.str (cutS z l u)) _ xx sr3 ?_⟩
          show Rep g F3 (.str (cutS z l u)) (.str (cutS z l u))
          unfold Rep
          rfl
        · cases hs
      · cases h3
    | _ => cases h3
  · cases h3
end
end Sz
set_option Elab.async false
set_option linter.all false
set_option maxRecDepth 100000
set_option maxHeartbeats 4000000
namespace Sz
open PySem PySem.Spec PyProof.Rows L2
/-- the heap with nothing but the script in it -/
def scrH (K : PySem.W.Frag) (a : Addr) (o : Obj) (xs : List V) : Hp := fun b => if b = a ∧ K.lookup a = none then some (.frz o (.lst xs)) else none
theorem scrH_some {K : PySem.W.Frag} {a b : Addr} {o : Obj} {xs : List V} {u : HO} (h : scrH K a o xs b = some u) : b = a ∧ K.lookup a = none ∧ u = .frz o (.lst xs) := by
  unfold scrH at h
  by_cases c : b = a ∧ K.lookup a = none
  · rw [if_pos c] at h
    exact ⟨c.1, c.2, (Option.some.inj h).symm⟩
  · rw [if_neg c] at h
    cases h
theorem law_runs {P : Program} {w : World} {K : PySem.W.Frag} {mg mb : Str → Option Value} {gb : Bool} {k : Nat} {fa a : Addr} {fd : FuncData} {x : Str} {sp : Sp} {st : Shared} {vs : List Value} {ns : List Int}
    (inK : K.In st.heap) (gl : st.heap.Ns mainGlobals mg) (bl : st.heap.Ns builtinsNs mb) (blb : ∀ x : Str, x ≠ "__name__" → mb x = bootBuiltins x) (nl : st.heap.NoLimit) (gens : st.gens = #[])
    (there : st.heap.get? a = some { cls := .type "list", data := .seq vs.toArray }) (nums : IntsAre vs ns) (small : ns.length ≤ sizeLine) (room : Room k callerA)
    (F : ∀ base : Heap, K.In base → base.Ns mainGlobals mg → FnG gb P w K mg base (CX P w) k fa fd [x] sp) (bind : ∀ (s : Shared) (u : Value), BindsTo s fd ⟨[u], []⟩ [(x, u)])
    (ask : ∀ H : Hp, SqL K H a (ns.map V.int) → sp [.ref a] H (fun v _ => v = .bl true) fun _ _ _ => False) :
    codeAny (model P w) callerA (.call (.ref fa) ⟨[.ref a], []⟩) (fun r s' => r = .ok (.ret (.bool true)) ∧ OldK st.heap s'.heap ∧ s'.os = st.os ∧ AllBare s'.gens) st := by
  have iv := vals_ints nums
  have ln := nums.length
  let o : Obj := { cls := .type "list", data := .seq vs.toArray }
  let H := scrH K a o (ns.map V.int)
  have only : ∀ {b : Addr} {u : HO}, H b = some u → b = a ∧ K.lookup a = none ∧ u = .frz o (.lst (ns.map V.int)) := fun h => scrH_some h
  have free : ∀ {b : Addr}, b ≠ a → H b = none := fun {b} n => if_neg fun c => n c.1
  have notDict : ∀ {b : Addr} {ob : Obj} {es : Array DictEntry} {ep : Nat}, st.heap.get? b = some ob → ob.data = .dict es ep → H b = none := by
    intro b ob es ep e d
    refine free fun z => ?_
    subst z
    have e' := there.symm.trans e
    cases e'
    exact Data.noConfusion d
  have hok : HOk P w H st.heap := by
    intro b u h
    obtain ⟨rfl, _, rfl⟩ := only h
    exact ⟨there, by rw [List.length_map]; exact small, vs, _, iv, there⟩
  have kept : ∀ {b : Addr} {m : Str → Option Value}, st.heap.Ns b m → (hidT st.heap H).Ns b m := fun {b m} ⟨ob, es, ep, e, d, r⟩ => ⟨ob, es, ep, hidT_get e (notDict e d), d, r⟩
  have kIn : K.In (hidT st.heap H) := fun b ob e => hidT_get (inK b ob e) (by
    cases q : H b with
    | none => rfl
    | some u =>
      obtain ⟨rfl, n, _⟩ := only q
      rw [n] at e
      cases e)
  have md : Mod K mg (hidT st.heap H) := ⟨kIn, kept gl, ⟨mb, kept bl, blb⟩, let ⟨mc, c1, c2⟩ := nl; ⟨mc, kept c1, c2⟩⟩
  have en : Env0 P w K mg (hidT st.heap H) callerA [] st H := ⟨rfl, md, fun b ob e => of_hidT e, Nat.le_of_eq (hidT_size _ _), trivial, fun b hb => absurd hb (List.not_mem_nil), hok, .of_eq gens⟩
  have scr : SqL K H a (ns.map V.int) := by
    cases hk : K.lookup a with
    | none => exact .inl (.inr ⟨o, if_pos ⟨rfl, hk⟩⟩)
    | some ob =>
      have e := (inK a ob hk).symm.trans there
      cases e
      exact .inr ⟨_, vs.toArray, _, hk, rfl, rfl, rfl, by rw [List.size_toArray, ln]; exact small, by simpa using iv⟩
  refine codeAny_mono ((F _ kIn (kept gl)).go callerA [] st H ⟨[.ref a], []⟩ [.ref a] [.ref a] _ _ room (fun _ => rfl) en (bind st (.ref a)) (.cons rfl .nil) (ask H scr)) fun r s' told => ?_
  cases r with
  | error e =>
    obtain ⟨_, _, _, _, _, _, _, _, _, _, _, _, z⟩ := told
    exact z.elim
  | ok fl =>
    cases fl with
    | ret u =>
      obtain ⟨v, H', os, bare, un, hok', rv, q⟩ := told
      obtain rfl : v = .bl true := q
      obtain rfl : u = Value.bool true := rv
      refine ⟨rfl, OldK.of_keep fun b ob e => ?_, os, bare⟩
      cases q : H b with
      | none => exact un.keep b ob e q (fun z => absurd z List.not_mem_nil) (fun z => absurd z List.not_mem_nil)
      | some u =>
        obtain ⟨rfl, _, rfl⟩ := only q
        obtain ⟨e2, _⟩ := hok' b _ (un.frzs b o _ q)
        have e1 := there.symm.trans e
        cases e1
        exact e2
    | next => exact False.elim told
    | brk => exact False.elim told
    | cont => exact False.elim told
/-- the goal behind the head, from the law's promise -/
theorem walk_G {l : PySem.W.OpenLaw} {n k : Nat} {q : Program} {loose : List Str} {XP : (Str → Option Value) → Heap → Prop} {YP : World → Heap → Prop} {d : DefRec} {x : Str} {gb : Bool}
    (most : l.most = some n) (small : n ≤ sizeLine) (dflt : d.params.defaults = []) (room : Room k callerA)
    (F : ∀ (w : World) (mg : Str → Option Value) (fa : Addr) (h : Heap), YP w h → h.Ns mainGlobals mg → mg d.name = some (.ref fa) →
      ∃ (K : PySem.W.Frag) (fd : FuncData) (sp : Sp), K.In h ∧ (∀ (s : Shared) (u : Value), BindsTo s fd ⟨[u], []⟩ [(x, u)]) ∧
        (∀ (H : Hp) (a : Addr) (ns : List Int), ns.length ≤ n → SqL K H a (ns.map V.int) → sp [.ref a] H (fun v _ => v = .bl true) fun _ _ _ => False) ∧
        ∀ base : Heap, K.In base → base.Ns mainGlobals mg → FnG gb l.prog w K mg base (CX l.prog w) k fa fd [x] sp) :
    PySem.W.WalkO q loose XP YP l.row.toRowW d [] (fun f vs => PySem.call f vs) := by
  refine Att.attach_call most dflt fun w s0 s1 mg mb fa o pm cd doc a vs ns Gr Y at_ dt code named script nums few gens => ?_
  obtain ⟨K, fd, sp, inK, bind, ask, prom⟩ := F w mg fa _ Y Gr.T.g named
  exact law_runs inK Gr.T.g Gr.T.b Gr.T.builtins Gr.T.nolimit gens script nums (Nat.le_trans few small) room prom bind fun H q => ask H a ns few q
end Sz
set_option Elab.async false
set_option linter.all false
set_option maxRecDepth 100000
set_option maxHeartbeats 4000000
namespace Sz
open PySem PySem.Spec L2
end Sz
set_option Elab.async false
set_option linter.all false
set_option maxRecDepth 100000
set_option maxHeartbeats 4000000
namespace Sz
open PySem PySem.Spec PyProof.Rows L2
open AutoSeq1 (wpAny_loadPart')
open RZ (ItzT pi_zipA)
end Sz
set_option Elab.async false
set_option linter.all false
set_option maxRecDepth 100000
set_option maxHeartbeats 4000000
namespace Sz
open PySem PySem.Spec PyProof.Rows L2
section
variable {g : G} {P : Program} {w : World} {mg : Str → Option Value} {base : Heap} {k : Nat} {N : List Str} {sc : Scope} {own cm gb : Bool} {X : Cx} {W : WX} {i : Nat} {x : Str} {frees globs : List Str}
/-- a whole number of the module -/
theorem Ct.gint {j : Int} {p : Pos} (c : Ct g P w mg base k N sc own cm gb X W) (hg : glB sc x = true) (h : ∃ t, mg x = some (.int j t)) : SE g X W (.Name x p) (mK (.int j)) := by
  obtain ⟨t, h⟩ := h
  exact se_k (v := .int j) (pe_glob (c.gl hg).1 (by rw [c.hmg]; exact h) ⟨t, rfl⟩ (c.gl hg).2.1) fun F => by unfold Rep; rfl
theorem Ct.gstr {z : Str} {p : Pos} (c : Ct g P w mg base k N sc own cm gb X W) (hg : glB sc x = true) (h : ∃ t, mg x = some (.str z t)) : SE g X W (.Name x p) (mK (.str z)) := by
  obtain ⟨t, h⟩ := h
  exact se_k (v := .str z) (pe_glob (c.gl hg).1 (by rw [c.hmg]; exact h) ⟨t, rfl⟩ (c.gl hg).2.1) fun F => by unfold Rep; rfl
end
structure TbF (g : G) (w : World) (tabs : Nat → Option Tab) : Prop where
  ok : ∀ i tab, tabs i = some tab → ∃ es n, KDict g.K w (g.fad i) es n ∧ ∀ z : Str,
    (∀ d, tab.lookup z = some d → ∃ u v, PySem.W.nsIn g.K (g.fad i) z = some (some u) ∧ RelV v u ∧ ∀ F, Rep g F d v) ∧ (tab.lookup z = none → PySem.W.nsIn g.K (g.fad i) z = some none)
  keys : ∀ i tab, tabs i = some tab → He.dicW g.K (g.fad i) = some (He.keysIn w.params (tab.map (·.1)))
theorem keys_find {P : Params} {z : Str} : ∀ {l : List DictEntry} {ks : List Str}, l.map He.keyOf = He.keysIn P ks → ¬ z ∈ ks → l.find? (·.key.isStr z) = none
  | [], _, _, _ => rfl
  | e :: r, [], h, _ => by cases h
  | e :: r, k :: ks, h, hz => by
    have h1 : He.keyOf e :: r.map He.keyOf = some (k, PyData.keyHash P k) :: He.keysIn P ks := h
    injection h1 with h2 h3
    have ne : e.key.isStr z = false := by
      unfold He.keyOf at h2
      split at h2
      · rename_i x t q
        obtain ⟨h5, _⟩ := Prod.mk.inj (Option.some.inj h2)
        rw [q]
        subst h5
        show Value.isStr (.str x t) z = false
        rw [PySem.W.isStr_of]
        show (x == z) = false
        exact beq_eq_false_iff_ne.mpr fun c => hz (by rw [← c]; exact List.mem_cons_self)
      · cases h2
    rw [List.find?_cons, ne]
    exact keys_find h3 fun c => hz (List.mem_cons_of_mem _ c)
theorem keys_ref {P : Params} : ∀ {l : List DictEntry} {ks : List Str}, l.map He.keyOf = He.keysIn P ks → l.any (·.refKey) = false
  | [], _, _ => rfl
  | e :: r, [], h => by cases h
  | e :: r, k :: ks, h => by
    have h1 : He.keyOf e :: r.map He.keyOf = some (k, PyData.keyHash P k) :: He.keysIn P ks := h
    injection h1 with h2 h3
    have ne : e.refKey = false := by
      unfold He.keyOf at h2
      split at h2
      · rename_i x t q
        unfold DictEntry.refKey
        rw [q]
      · cases h2
    rw [List.any_cons, ne, keys_ref h3]
    rfl
/-- what the texts of a law stand on -/
structure TbX (g : G) (mg : Str → Option Value) (w : World) (frees globs : List Str) (cis : List (Str × Int)) (css : List (Str × Str)) (tabs : Nat → Option Tab) (fns : List Str) (tps : List (Str × List Str)) : Prop extends Tb g mg frees globs where
  tf : TbF g w tabs
  gi : ∀ x i, cis.lookup x = some i → ∃ t, mg x = some (.int i t)
  gs : ∀ x z, css.lookup x = some z → ∃ t, mg x = some (.str z t)
  gt : ∀ i tab, tabs i = some tab → mg (fns.getD i "") = some (.ref (g.fad i))
  gp : ∀ p, p ∈ tps → mg p.1 = some (.ref (He.ga g.K p.1)) ∧ tpB g.K p = true
theorem valB_ok {cls fns : List Str} {fls : List (List Str)} {tb : List (Addr × Str)} {K : PySem.W.Frag} {d : D} {o : Option (Option Value)} (h : valB fns K d o = true) : ∃ u v, o = some (some u) ∧ RelV v u ∧ ∀ F, Rep (gOf cls fls K fns tb) F d v := by
  unfold valB at h
  split at h
  · rename_i n a
    rw [beq_iff_eq.mp h]
    exact ⟨_, .ref _, rfl, rfl, fun F => by unfold Rep; rfl⟩
  · rename_i i j t
    rw [beq_iff_eq.mp h]
    exact ⟨_, .int _, rfl, ⟨t, rfl⟩, fun F => by unfold Rep; rfl⟩
  · rename_i s z t
    rw [beq_iff_eq.mp h]
    exact ⟨_, .str _, rfl, ⟨t, rfl⟩, fun F => by unfold Rep; rfl⟩
  · cases h
section
variable {chk : PySem.W.Frag → Bool} {fa : List He.Fa} {fn : List He.DefD} {ts : List He.Tab} {w : World} {K : PySem.W.Frag}
theorem SaysY.z (S : SaysY chk fa fn ts w K) : SaysZ chk fa fn K := congrArg (fun z : AlY => z.1) S
theorem SaysY.tab (S : SaysY chk fa fn ts w K) {t : He.Tab} (h : t ∈ ts) : He.dicW K (t.1 K) = some (He.keysIn w.params t.2) := by
  have e : ts.map (fun t => He.dicW K (t.1 K)) = ts.map fun t => some (He.keysIn w.params t.2) := congrArg (fun z : AlY => z.2) S
  exact (List.map_inj_left.mp e) t h
end
theorem dicW_keys {K : PySem.W.Frag} {w : World} {a : Addr} {ks : List Str} {z : Str} (h : He.dicW K a = some (He.keysIn w.params ks)) (hz : ¬ z ∈ ks) : PySem.W.nsIn K a z = some none := by
  unfold He.dicW at h
  cases q : K.lookup a with
  | none => rw [q] at h; cases h
  | some o =>
    obtain ⟨oc, od, dt, osl⟩ := o
    rw [q] at h
    cases oc with
    | type c =>
      cases od with
      | none =>
        cases dt with
        | dict es n =>
          have h1 : (match decide (c = "dict") && (osl.isEmpty && !(a == sysModules)) with
            | true => some (es.toList.map He.keyOf)
            | false => none) = some (He.keysIn w.params ks) := h
          split at h1
          · have e := Option.some.inj h1
            unfold PySem.W.nsIn
            rw [q]
            show (match es.toList.find? (·.key.isStr z) with
              | some e => some (some e.val)
              | none => if es.toList.any (·.refKey) = true then none else some none) = some none
            rw [keys_find e hz, keys_ref e]
            rfl
          · cases h1
        | _ => cases h
      | some b => cases dt <;> cases h
    | _ => cases od <;> cases dt <;> cases h
theorem lookup_mem {α β : Type} [BEq α] [LawfulBEq α] {x : α} {y : β} : ∀ {l : List (α × β)}, l.lookup x = some y → (x, y) ∈ l
  | [], h => by cases h
  | (a, b) :: l, h => by
    cases e : (x == a) with
    | true =>
      simp only [List.lookup, e] at h
      cases h
      rw [beq_iff_eq.mp e]
      exact List.mem_cons_self
    | false =>
      simp only [List.lookup, e] at h
      exact List.mem_cons_of_mem _ (lookup_mem h)
theorem lookup_none {α β : Type} [BEq α] [LawfulBEq α] {x : α} : ∀ {l : List (α × β)}, l.lookup x = none → ¬ x ∈ l.map (·.1)
  | [], _ => by simp
  | (a, b) :: l, h => by
    cases e : (x == a) with
    | true => simp only [List.lookup, e] at h; cases h
    | false =>
      simp only [List.lookup, e] at h
      intro hm
      rcases List.mem_cons.mp hm with z | z
      · rw [z] at e
        simp at e
      · exact lookup_none h z
theorem tbf_of {cls fns : List Str} {fls : List (List Str)} {tb : List (Addr × Str)} {tabs : List (Nat × Tab)} {chk : PySem.W.Frag → Bool} {fa : List He.Fa} {fn : List He.DefD} {w : World} {K : PySem.W.Frag} (S : SaysY chk fa fn (htabs fns tabs) w K) (h : tabB fns tabs K = true) : TbF (gOf cls fls K fns tb) w (tabsOf tabs) := by
  refine ⟨fun i tab ht => ?_, fun i tab ht => ?_⟩
  case refine_2 =>
    have hm := lookup_mem (show tabs.lookup i = some tab from ht)
    have hd := S.tab (t := (fun K => He.ga K (fns.getD i ""), tab.map (·.1))) (List.mem_map.mpr ⟨(i, tab), hm, rfl⟩)
    exact hd
  have hm := lookup_mem (show tabs.lookup i = some tab from ht)
  have hd := S.tab (t := (fun K => He.ga K (fns.getD i ""), tab.map (·.1))) (List.mem_map.mpr ⟨(i, tab), hm, rfl⟩)
  obtain ⟨es, n, kd⟩ := He.dicW_ok (w := w) hd
  refine ⟨es, n, kd, fun z => ⟨fun d hl => ?_, fun hl => dicW_keys (w := w) hd (lookup_none hl)⟩⟩
  have h2 := List.all_eq_true.mp (He.ba (List.all_eq_true.mp h (i, tab) hm)).2 (z, d) (lookup_mem hl)
  exact valB_ok h2
end Sz
namespace Sz
open PySem PySem.Spec PyProof.Rows L2
theorem FnC.gd {a b : Bool} {g : G} {P : Program} {w : World} {mg : Str → Option Value} {base : Heap} {k : Nat} {fi : FnI} {f : Addr} {sh : List (Nat × List Str)} (F : FnC a g P w mg base fi k f sh) (h : leB a b = true) : FnC b g P w mg base fi k f sh := by
  obtain ⟨fd, dvs, h1, h2, h3⟩ := F.ok
  exact ⟨fd, dvs, h1.gd h, h2, h3⟩
/-- what stands behind the head -/
theorem tbx_of {cls fns : List Str} {fls : List (List Str)} {tb : List (Addr × Str)} {tabs : List (Nat × Tab)} {chk : PySem.W.Frag → Bool} {frees globs : List Str} {cis : List (Str × Int)} {css : List (Str × Str)} {rest0 rest : List He.Fa} {fn : List He.DefD} {w : World} {K : PySem.W.Frag} {h : Heap} {mg : Str → Option Value} {tps : List (Str × List Str)}
    (e : rest = rest0 ++ (cis.map (fun p => He.Fa.int p.1 p.2) ++ css.map fun p => He.Fa.str p.1 p.2)) (KX : K.In h) (Gm : h.Ns mainGlobals mg) (S : SaysY chk (faOf frees globs rest) fn (htabs fns tabs) w K) (ht : tabB fns tabs K = true) (hp : tpsB tps K = true) :
    TbX (gOf cls fls K fns tb) mg w frees globs cis css (tabsOf tabs) fns tps := by
  refine ⟨tb_of rfl KX Gm S.z.says, tbf_of S ht, fun x i hx => ?_, fun x z hx => ?_, fun i tab hi => He.glo_ok KX Gm (He.ba (List.all_eq_true.mp ht (i, tab) (lookup_mem (show tabs.lookup i = some tab from hi)))).1, fun p hm => ⟨He.glo_ok KX Gm (He.ba (List.all_eq_true.mp hp p hm)).1, (He.ba (List.all_eq_true.mp hp p hm)).2⟩⟩
  · refine He.int_ok KX Gm (says_all S.z.says (f := .int x i) ?_)
    rw [e]
    exact List.mem_append_right _ (List.mem_append_right _ (List.mem_append_right _ (List.mem_append_right _ (List.mem_append_left _ (List.mem_map.mpr ⟨(x, i), lookup_mem hx, rfl⟩)))))
  · refine He.str_ok KX Gm (says_all S.z.says (f := .str x z) ?_)
    rw [e]
    exact List.mem_append_right _ (List.mem_append_right _ (List.mem_append_right _ (List.mem_append_right _ (List.mem_append_right _ (List.mem_map.mpr ⟨(x, z), lookup_mem hx, rfl⟩)))))
end Sz
namespace Sz
open PySem PySem.Spec PyProof.Rows L2
end Sz
set_option Elab.async false
set_option linter.all false
set_option maxRecDepth 100000
set_option maxHeartbeats 4000000
namespace Sz
open PySem PySem.Spec PyProof.Rows L2
theorem base_ok : ∀ b : Nat, ∃ B initId, ExcBaseFacts B (newOf b) initId (bmOf b)
  | 0 => ⟨_, _, PySem.F.excBase_ValueError⟩
  | 1 => ⟨_, _, PySem.F.excBase_ZeroDivisionError⟩
  | 2 => ⟨_, _, PySem.F.excBase_LookupError⟩
  | _ + 3 => ⟨_, _, PySem.F.excBase_IndexError⟩
theorem lkp_mem {α β : Type} [BEq α] [LawfulBEq α] {k : α} {b : β} : ∀ {l : List (α × β)}, l.lookup k = some b → (k, b) ∈ l
  | [], h => by cases h
  | (x, y) :: l, h => by
    unfold List.lookup at h
    split at h
    · rename_i q
      cases h
      rw [beq_iff_eq.mp q]
      exact List.mem_cons_self
    · exact List.mem_cons_of_mem _ (lkp_mem h)
end Sz
set_option Elab.async false
set_option linter.all false
set_option maxRecDepth 100000
set_option maxHeartbeats 4000000
namespace Sz
open PySem PySem.Spec L2
def slotM : Option (Option S) → Sto → Option R
  | some (some s), μ => some (.ok s, μ)
  | _, _ => none
theorem slotM_some {s : S} {μ : Sto} : slotM (some (some s)) μ = some (.ok s, μ) := Eq.trans rfl rfl
theorem mVar_ap {i : Nat} {ρ : En} {μ : Sto} : mVar i ρ μ = slotM ρ[i]? μ := by
  unfold mVar slotM
  rcases ρ[i]? with _ | _ | s <;> rfl
theorem mK_ap {d : D} {ρ : En} {μ : Sto} : mK d ρ μ = some (.ok (.val d), μ) := Eq.trans rfl rfl
theorem andThen_ok {α β : Type} {s : α} {μ : Sto} {f : α → Sto → Option (Except Ex β × Sto)} : andThen (some (.ok s, μ)) f = f s μ := Eq.trans rfl rfl
theorem andThen_err {α β : Type} {x : Ex} {μ : Sto} {f : α → Sto → Option (Except Ex β × Sto)} : andThen (some (.error x, μ)) f = some (.error x, μ) := Eq.trans rfl rfl
theorem andThen_if {α β : Type} {c : Prop} [Decidable c] {x y : Option (Except Ex α × Sto)} {f : α → Sto → Option (Except Ex β × Sto)} : andThen (if c then x else y) f = if c then andThen x f else andThen y f := by split <;> rfl
theorem exThen_ok {α : Type} {s : α} {μ : Sto} {ρ : En} {f : α → Sto → Option (Fl × En × Sto)} : exThen (some (.ok s, μ)) ρ f = f s μ := Eq.trans rfl rfl
theorem exThen_err {α : Type} {x : Ex} {μ : Sto} {ρ : En} {f : α → Sto → Option (Fl × En × Sto)} : exThen (some (.error x, μ)) ρ f = some (.ex x, ρ, μ) := Eq.trans rfl rfl
theorem exThen_if {α : Type} {c : Prop} [Decidable c] {x y : Option (Except Ex α × Sto)} {ρ : En} {f : α → Sto → Option (Fl × En × Sto)} : exThen (if c then x else y) ρ f = if c then exThen x ρ f else exThen y ρ f := by split <;> rfl
theorem vw_val {μ : Sto} {d : D} : vw μ (.val d) = some d := Eq.trans rfl rfl
theorem vw_fr {μ : Sto} {ds : List D} : vw μ (.fr ds) = some (.lst ds) := Eq.trans rfl rfl
def cellV : Option C → Option D
  | some (.lst ds) => some (.lst ds)
  | some (.frz d) => some d
  | _ => none
theorem vw_cell {μ : Sto} {k : Nat} : vw μ (.cell k) = cellV μ[k]? := by
  unfold vw cellV
  dsimp only
  all_goals (rcases μ[k]? with _ | c <;> first | rfl | (cases c <;> rfl))
theorem cellV_lst {ds : List D} : cellV (some (.lst ds)) = some (.lst ds) := Eq.trans rfl rfl
theorem cellV_frz {d : D} : cellV (some (.frz d)) = some d := Eq.trans rfl rfl
theorem rt_val {d : D} : rt (.val d) = .val d := Eq.trans rfl rfl
theorem rt_fr {ds : List D} : rt (.fr ds) = .val (.lst ds) := Eq.trans rfl rfl
theorem rt_cell {k : Nat} : rt (.cell k) = .cell k := Eq.trans rfl rfl
def fin2K (μ : Sto) : Option S → Option R
  | some s => some (.ok s, μ)
  | none => none
theorem fin2K_some {μ : Sto} {s : S} : fin2K μ (some s) = some (.ok s, μ) := Eq.trans rfl rfl
def opK (op : D → D → Option S) : Option D → Option D → Option S
  | some x, some y => op x y
  | _, _ => none
theorem opK_some {op : D → D → Option S} {x y : D} : opK op (some x) (some y) = op x y := Eq.trans rfl rfl
theorem fin2_ap {op : D → D → Option S} {μ : Sto} {s t : S} : fin2 op μ s t = fin2K μ (opK op (vw μ s) (vw μ t)) := by
  unfold fin2 opK fin2K
  rcases vw μ s with _ | x <;> rcases vw μ t with _ | y <;> first | rfl | (dsimp only; cases op x y <;> rfl)
def op1K (op : D → Option S) : Option D → Option S
  | some x => op x
  | _ => none
theorem op1K_some {op : D → Option S} {x : D} : op1K op (some x) = op x := Eq.trans rfl rfl
theorem fin1_ap {op : D → Option S} {μ : Sto} {s : S} : fin1 op μ s = fin2K μ (op1K op (vw μ s)) := by
  unfold fin1 op1K fin2K
  rcases vw μ s with _ | x
  · rfl
  · dsimp only
    all_goals (cases op x <;> rfl)
theorem mOp2_ap {op : D → D → Option S} {a b : ME} {ρ : En} {μ : Sto} : mOp2 op a b ρ μ = andThen (a ρ μ) fun s1 μ1 => andThen (b ρ μ1) fun s2 μ2 => fin2 op μ2 (rt s1) s2 := Eq.trans rfl rfl
theorem mOp1_ap {op : D → Option S} {a : ME} {ρ : En} {μ : Sto} : mOp1 op a ρ μ = andThen (a ρ μ) fun s1 μ1 => fin1 op μ1 s1 := Eq.trans rfl rfl
theorem add_ii {i j : Int} : dAdd (.int i) (.int j) = some (.val (.int (i + j))) := Eq.trans rfl rfl
theorem sub_ii {i j : Int} : dSub (.int i) (.int j) = some (.val (.int (i - j))) := Eq.trans rfl rfl
theorem not_b {b : Bool} : dNot (.bl b) = some (.val (.bl (!b))) := Eq.trans rfl rfl
theorem lt_ii {i j : Int} : dLt (.int i) (.int j) = some (.val (.bl (decide (i < j)))) := Eq.trans rfl rfl
theorem le_ii {i j : Int} : dLe (.int i) (.int j) = some (.val (.bl (decide (i ≤ j)))) := Eq.trans rfl rfl
theorem gt_ii {i j : Int} : dGt (.int i) (.int j) = some (.val (.bl (decide (j < i)))) := Eq.trans rfl rfl
theorem ge_ii {i j : Int} : dGe (.int i) (.int j) = some (.val (.bl (decide (j ≤ i)))) := Eq.trans rfl rfl
theorem eq_ii {i j : Int} : dEq (.int i) (.int j) = some (.val (.bl (decide (i = j)))) := by
  have : pyEq (.int i) (.int j) = some (decide (i = j)) := by
    show some (PyData.eqv (.int i) (.int j)) = _
    rfl
  unfold dEq
  simp only [this]
theorem ne_ii {i j : Int} : dNe (.int i) (.int j) = some (.val (.bl (!decide (i = j)))) := by
  have : pyEq (.int i) (.int j) = some (decide (i = j)) := by
    show some (PyData.eqv (.int i) (.int j)) = _
    rfl
  unfold dNe
  simp only [this]
/-- at most so many bits -/
def Bd (n : Nat) (i : Int) : Prop := i.natAbs < 2 ^ n
theorem Bd.mono {n m : Nat} {i : Int} (h : Bd n i) (e : n ≤ m) : Bd m i := Nat.lt_of_lt_of_le h (Nat.pow_le_pow_right (by decide) e)
theorem Bd.mul {n m : Nat} {i j : Int} (h : Bd n i) (g : Bd m j) : Bd (n + m) (i * j) := wide_lt h g
theorem Bd.add {n : Nat} {i j : Int} (h : Bd n i) (g : Bd n j) : Bd (n + 1) (i + j) := by
  unfold Bd at *
  rw [Nat.pow_succ]
  omega
theorem Bd.sub {n : Nat} {i j : Int} (h : Bd n i) (g : Bd n j) : Bd (n + 1) (i - j) := by
  unfold Bd at *
  rw [Nat.pow_succ]
  omega
theorem Bd.neg {n : Nat} {i : Int} (h : Bd n i) : Bd n (-i) := by
  unfold Bd at *
  omega
theorem Bd.bits {n : Nat} {i : Int} (h : Bd n i) : Builtin.Int.intBits i ≤ n := by
  unfold Builtin.Int.intBits
  by_cases e : i = 0
  · rw [if_pos (by rw [e]; rfl)]; exact Nat.zero_le _
  · rw [if_neg (by simpa using e)]
    have h0 : i.natAbs ≠ 0 := by omega
    exact (Nat.log2_lt h0).mpr h
theorem mulOk_bd {n m : Nat} {i j : Int} (h : Bd n i) (g : Bd m j) (e : n + m ≤ 134217728) : mulOk i j = true := by
  have h1 := h.bits
  have h2 := g.bits
  apply mulOk_of
  have eb : bitsLine = 134217728 := by decide
  unfold IntMulOk
  intro z
  rw [Bool.and_eq_true] at z
  have z2 := z.2
  unfold Builtin.Int.intTooBig at z2
  have z3 := of_decide_eq_true z2
  rw [eb] at z3
  omega
/-- one factor short -/
theorem mulOk_right {i j : Int} (g : Bd 64 j) : mulOk i j = true := by
  have h2 := g.bits
  apply mulOk_of
  unfold IntMulOk
  intro z
  rw [Bool.and_eq_true, Bool.and_eq_true] at z
  have := of_decide_eq_true z.1.2
  have e : shortFactorBits = 64 := Eq.trans rfl rfl
  omega
theorem mulOk_left {i j : Int} (g : Bd 64 i) : mulOk i j = true := by
  have h2 := g.bits
  apply mulOk_of
  unfold IntMulOk
  intro z
  rw [Bool.and_eq_true, Bool.and_eq_true] at z
  have := of_decide_eq_true z.1.1
  have e : shortFactorBits = 64 := Eq.trans rfl rfl
  omega
theorem mul_ii {i j : Int} (h : mulOk i j = true) : dMul (.int i) (.int j) = some (.val (.int (i * j))) := by
  unfold dMul
  dsimp only
  rw [if_pos h]
theorem mul_bd {i j : Int} (n m : Nat) (h : Bd n i) (g : Bd m j) (e : n + m ≤ 134217728 := by decide) : dMul (.int i) (.int j) = some (.val (.int (i * j))) := mul_ii (mulOk_bd h g e)
theorem fdiv_ii {i j : Int} (n : Nat) (h0 : j ≠ 0) (h : Bd n j) (hn : n ≤ 9000 := by decide) : dFdiv (.int i) (.int j) = some (.val (.int (i.fdiv j))) := by
  unfold dFdiv
  dsimp only
  have : j.natAbs ≠ 0 := by omega
  exact if_pos ⟨h0, Nat.lt_of_lt_of_le ((Nat.log2_lt this).mpr h) hn⟩
theorem mod_ii {i j : Int} (h0 : j ≠ 0) : dMod (.int i) (.int j) = some (.val (.int (i.fmod j))) := by
  unfold dMod
  dsimp only
  rw [if_pos h0]
theorem pow_ii {i j : Int} (n : Nat) (h : Bd n i) (h0 : 0 ≤ j) (e : n * j.toNat ≤ 2 ^ 27) : dPow (.int i) (.int j) = some (.val (.int (i ^ j.toNat))) := by
  unfold dPow
  dsimp only
  have h1 := h.bits
  have h2 : Builtin.Int.intBits i * j.toNat ≤ n * j.toNat := Nat.mul_le_mul_right _ h1
  have h3 : (Builtin.Int.intBits i : Int) * (j.toNat : Int) ≤ 2 ^ 27 := by exact_mod_cast Nat.le_trans h2 e
  rw [Int.toNat_of_nonneg h0] at h3
  exact if_pos ⟨h0, h3⟩
theorem ix_lst {ds : List D} {i : Int} : dIx (.lst ds) (.int i) = (atI ds i).map .val := Eq.trans rfl rfl
theorem ix_tup {ds : List D} {i : Int} : dIx (.tup ds) (.int i) = (atI ds i).map .val := Eq.trans rfl rfl
theorem ix_scr {ns : List Int} {i : Int} : dIx (.scr ns) (.int i) = (atI ns i).map fun n => .val (.int n) := Eq.trans rfl rfl
theorem omap_some {α β : Type} {f : α → β} {a : α} : (some a).map f = some (f a) := Eq.trans rfl rfl
theorem atI_mem {α : Type} {l : List α} {i : Int} (h0 : 0 ≤ i) (h1 : i < l.length) : ∃ x, atI l i = some x ∧ x ∈ l := by
  have h2 : i.toNat < l.length := by omega
  refine ⟨l[i.toNat], ?_, List.getElem_mem h2⟩
  unfold atI ixN
  rw [if_pos h0, if_pos h1]
  show l[i.toNat]? = _
  exact List.getElem?_eq_getElem h2
theorem atI0 {α : Type} {a : α} {l : List α} : atI (a :: l) 0 = some a := by
  unfold atI ixN
  rw [if_pos (by decide), if_pos (by simp only [List.length_cons]; omega)]
  rfl
theorem atI1 {α : Type} {a b : α} {l : List α} : atI (a :: b :: l) 1 = some b := by
  unfold atI ixN
  rw [if_pos (by decide), if_pos (by simp only [List.length_cons]; omega)]
  rfl
theorem atI2 {α : Type} {a b c : α} {l : List α} : atI (a :: b :: c :: l) 2 = some c := by
  unfold atI ixN
  rw [if_pos (by decide), if_pos (by simp only [List.length_cons]; omega)]
  rfl
theorem bl?_bl {b : Bool} : bl? (.val (.bl b)) = some b := Eq.trans rfl rfl
def tBlK (μ : Sto) : Option Bool → Option (Except Ex Bool × Sto)
  | some b => some (.ok b, μ)
  | none => none
theorem tBlK_some {μ : Sto} {b : Bool} : tBlK μ (some b) = some (.ok b, μ) := Eq.trans rfl rfl
theorem tBl_ap {a : ME} {ρ : En} {μ : Sto} : tBl a ρ μ = andThen (a ρ μ) fun s μ1 => tBlK μ1 (bl? s) := by
  unfold tBl
  congr
theorem tNotM_ap {a : MT} {ρ : En} {μ : Sto} : tNotM a ρ μ = andThen (a ρ μ) fun b μ1 => some (.ok (!b), μ1) := Eq.trans rfl rfl
theorem tAndM_ap {a b : MT} {ρ : En} {μ : Sto} : tAndM a b ρ μ = andThen (a ρ μ) fun c μ1 => if c = true then b ρ μ1 else some (.ok false, μ1) := Eq.trans rfl rfl
theorem tOrM_ap {a b : MT} {ρ : En} {μ : Sto} : tOrM a b ρ μ = andThen (a ρ μ) fun c μ1 => if c = true then some (.ok true, μ1) else b ρ μ1 := Eq.trans rfl rfl
theorem tTrue_ap {ρ : En} {μ : Sto} : tTrue ρ μ = some (.ok true, μ) := Eq.trans rfl rfl
theorem mIf_ap {t : MT} {a b : ME} {ρ : En} {μ : Sto} : mIf t a b ρ μ = andThen (t ρ μ) fun c μ1 => if c = true then a ρ μ1 else b ρ μ1 := Eq.trans rfl rfl
def andK (μ : Sto) (x : Option R) : Option Bool → Option R
  | some true => x
  | some false => some (.ok (.val (.bl false)), μ)
  | none => none
theorem mAnd_ap {a b : ME} {ρ : En} {μ : Sto} : mAnd a b ρ μ = andThen (a ρ μ) fun s μ1 => andK μ1 (b ρ μ1) (bl? s) := by
  unfold mAnd
  congr
theorem andK_some {μ : Sto} {x : Option R} {b : Bool} : andK μ x (some b) = if b = true then x else some (.ok (.val (.bl false)), μ) := by cases b <;> rfl
theorem mArgs_nil {ρ : En} {μ : Sto} : mArgs [] ρ μ = some (.ok [], μ) := Eq.trans rfl rfl
theorem mArgs_cons {m : ME} {ms : List ME} {ρ : En} {μ : Sto} : mArgs (m :: ms) ρ μ = andThen (m ρ μ) fun s μ1 => andThen (mArgs ms ρ μ1) fun ss μ2 => some (.ok (rt s :: ss), μ2) := Eq.trans rfl rfl
theorem mOwns_nil {ρ : En} {μ : Sto} : mOwns [] ρ μ = some (.ok [], μ) := Eq.trans rfl rfl
theorem mOwns_cons {fl : Bool} {m : ME} {ms : List (Bool × ME)} {ρ : En} {μ : Sto} : mOwns ((fl, m) :: ms) ρ μ = andThen (m ρ μ) fun s μ1 => andThen (mOwns ms ρ (own fl s μ1).2) fun ss μ2 => some (.ok ((own fl s μ1).1 :: ss), μ2) := Eq.trans rfl rfl
theorem mList_ap {ms : List ME} {ρ : En} {μ : Sto} : mList ms ρ μ = andThen (mArgs ms ρ μ) finL := Eq.trans rfl rfl
theorem mTup_ap {ms : List ME} {ρ : En} {μ : Sto} : mTup ms ρ μ = andThen (mArgs ms ρ μ) finT := Eq.trans rfl rfl
theorem mCallB_ap {op : List D → Option S} {ms : List ME} {ρ : En} {μ : Sto} : mCallB op ms ρ μ = andThen (mArgs ms ρ μ) (finB op) := Eq.trans rfl rfl
/-- all are values -/
def vals? : List S → Option (List D)
  | [] => some []
  | .val d :: ss => (vals? ss).map (d :: ·)
  | _ => none
theorem vals_toDs {μ : Sto} : ∀ {ss : List S} {ds : List D}, vals? ss = some ds → toDs μ ss = some (ds, μ)
  | [], ds, h => by cases h; rfl
  | s :: ss, ds, h => by
    cases s with
    | val d =>
      unfold vals? at h
      obtain ⟨r, h1, rfl⟩ := Option.map_eq_some_iff.mp h
      unfold toDs
      show (match toDs μ ss with | none => none | some (ds, μ2) => some (d :: ds, μ2)) = _
      rw [vals_toDs h1]
    | cell k => cases h
    | fr x => cases h
    | pot _ _ _ => cases h
    | any => cases h
theorem finL_vals {ss : List S} {ds : List D} {μ : Sto} (h : vals? ss = some ds) (hl : ds.length ≤ 1000) : finL ss μ = some (.ok (.fr ds), μ) := by
  unfold finL
  rw [vals_toDs h]
  show (if ds.length ≤ sizeLine then _ else _) = _
  rw [if_pos (Nat.le_trans hl (by decide))]
theorem finT_vals {ss : List S} {ds : List D} {μ : Sto} (h : vals? ss = some ds) (hl : ds.length ≤ 1000) : finT ss μ = some (.ok (.val (.tup ds)), μ) := by
  unfold finT
  rw [vals_toDs h]
  show (if ds.length ≤ sizeLine then _ else _) = _
  rw [if_pos (Nat.le_trans hl (by decide))]
/-- displays of values (short ones) -/
theorem finL1 {x0 : D} {μ : Sto} : finL [.val x0] μ = some (.ok (.fr [x0]), μ) := finL_vals rfl (by simp)
theorem finL2 {x0 x1 : D} {μ : Sto} : finL [.val x0, .val x1] μ = some (.ok (.fr [x0, x1]), μ) := finL_vals rfl (by simp)
theorem finL3 {x0 x1 x2 : D} {μ : Sto} : finL [.val x0, .val x1, .val x2] μ = some (.ok (.fr [x0, x1, x2]), μ) := finL_vals rfl (by simp)
theorem finL4 {x0 x1 x2 x3 : D} {μ : Sto} : finL [.val x0, .val x1, .val x2, .val x3] μ = some (.ok (.fr [x0, x1, x2, x3]), μ) := finL_vals rfl (by simp)
theorem finL5 {x0 x1 x2 x3 x4 : D} {μ : Sto} : finL [.val x0, .val x1, .val x2, .val x3, .val x4] μ = some (.ok (.fr [x0, x1, x2, x3, x4]), μ) := finL_vals rfl (by simp)
theorem finL6 {x0 x1 x2 x3 x4 x5 : D} {μ : Sto} : finL [.val x0, .val x1, .val x2, .val x3, .val x4, .val x5] μ = some (.ok (.fr [x0, x1, x2, x3, x4, x5]), μ) := finL_vals rfl (by simp)
theorem finL7 {x0 x1 x2 x3 x4 x5 x6 : D} {μ : Sto} : finL [.val x0, .val x1, .val x2, .val x3, .val x4, .val x5, .val x6] μ = some (.ok (.fr [x0, x1, x2, x3, x4, x5, x6]), μ) := finL_vals rfl (by simp)
theorem finL8 {x0 x1 x2 x3 x4 x5 x6 x7 : D} {μ : Sto} : finL [.val x0, .val x1, .val x2, .val x3, .val x4, .val x5, .val x6, .val x7] μ = some (.ok (.fr [x0, x1, x2, x3, x4, x5, x6, x7]), μ) := finL_vals rfl (by simp)
theorem finL9 {x0 x1 x2 x3 x4 x5 x6 x7 x8 : D} {μ : Sto} : finL [.val x0, .val x1, .val x2, .val x3, .val x4, .val x5, .val x6, .val x7, .val x8] μ = some (.ok (.fr [x0, x1, x2, x3, x4, x5, x6, x7, x8]), μ) := finL_vals rfl (by simp)
theorem finL10 {x0 x1 x2 x3 x4 x5 x6 x7 x8 x9 : D} {μ : Sto} : finL [.val x0, .val x1, .val x2, .val x3, .val x4, .val x5, .val x6, .val x7, .val x8, .val x9] μ = some (.ok (.fr [x0, x1, x2, x3, x4, x5, x6, x7, x8, x9]), μ) := finL_vals rfl (by simp)
theorem finL11 {x0 x1 x2 x3 x4 x5 x6 x7 x8 x9 x10 : D} {μ : Sto} : finL [.val x0, .val x1, .val x2, .val x3, .val x4, .val x5, .val x6, .val x7, .val x8, .val x9, .val x10] μ = some (.ok (.fr [x0, x1, x2, x3, x4, x5, x6, x7, x8, x9, x10]), μ) := finL_vals rfl (by simp)
theorem finL12 {x0 x1 x2 x3 x4 x5 x6 x7 x8 x9 x10 x11 : D} {μ : Sto} : finL [.val x0, .val x1, .val x2, .val x3, .val x4, .val x5, .val x6, .val x7, .val x8, .val x9, .val x10, .val x11] μ = some (.ok (.fr [x0, x1, x2, x3, x4, x5, x6, x7, x8, x9, x10, x11]), μ) := finL_vals rfl (by simp)
theorem finL13 {x0 x1 x2 x3 x4 x5 x6 x7 x8 x9 x10 x11 x12 : D} {μ : Sto} : finL [.val x0, .val x1, .val x2, .val x3, .val x4, .val x5, .val x6, .val x7, .val x8, .val x9, .val x10, .val x11, .val x12] μ = some (.ok (.fr [x0, x1, x2, x3, x4, x5, x6, x7, x8, x9, x10, x11, x12]), μ) := finL_vals rfl (by simp)
theorem finL14 {x0 x1 x2 x3 x4 x5 x6 x7 x8 x9 x10 x11 x12 x13 : D} {μ : Sto} : finL [.val x0, .val x1, .val x2, .val x3, .val x4, .val x5, .val x6, .val x7, .val x8, .val x9, .val x10, .val x11, .val x12, .val x13] μ = some (.ok (.fr [x0, x1, x2, x3, x4, x5, x6, x7, x8, x9, x10, x11, x12, x13]), μ) := finL_vals rfl (by simp)
theorem finL15 {x0 x1 x2 x3 x4 x5 x6 x7 x8 x9 x10 x11 x12 x13 x14 : D} {μ : Sto} : finL [.val x0, .val x1, .val x2, .val x3, .val x4, .val x5, .val x6, .val x7, .val x8, .val x9, .val x10, .val x11, .val x12, .val x13, .val x14] μ = some (.ok (.fr [x0, x1, x2, x3, x4, x5, x6, x7, x8, x9, x10, x11, x12, x13, x14]), μ) := finL_vals rfl (by simp)
theorem finL16 {x0 x1 x2 x3 x4 x5 x6 x7 x8 x9 x10 x11 x12 x13 x14 x15 : D} {μ : Sto} : finL [.val x0, .val x1, .val x2, .val x3, .val x4, .val x5, .val x6, .val x7, .val x8, .val x9, .val x10, .val x11, .val x12, .val x13, .val x14, .val x15] μ = some (.ok (.fr [x0, x1, x2, x3, x4, x5, x6, x7, x8, x9, x10, x11, x12, x13, x14, x15]), μ) := finL_vals rfl (by simp)
theorem finT1 {x0 : D} {μ : Sto} : finT [.val x0] μ = some (.ok (.val (.tup [x0])), μ) := finT_vals rfl (by simp)
theorem finT2 {x0 x1 : D} {μ : Sto} : finT [.val x0, .val x1] μ = some (.ok (.val (.tup [x0, x1])), μ) := finT_vals rfl (by simp)
theorem finT3 {x0 x1 x2 : D} {μ : Sto} : finT [.val x0, .val x1, .val x2] μ = some (.ok (.val (.tup [x0, x1, x2])), μ) := finT_vals rfl (by simp)
theorem finT4 {x0 x1 x2 x3 : D} {μ : Sto} : finT [.val x0, .val x1, .val x2, .val x3] μ = some (.ok (.val (.tup [x0, x1, x2, x3])), μ) := finT_vals rfl (by simp)
theorem finT5 {x0 x1 x2 x3 x4 : D} {μ : Sto} : finT [.val x0, .val x1, .val x2, .val x3, .val x4] μ = some (.ok (.val (.tup [x0, x1, x2, x3, x4])), μ) := finT_vals rfl (by simp)
theorem finT6 {x0 x1 x2 x3 x4 x5 : D} {μ : Sto} : finT [.val x0, .val x1, .val x2, .val x3, .val x4, .val x5] μ = some (.ok (.val (.tup [x0, x1, x2, x3, x4, x5])), μ) := finT_vals rfl (by simp)
theorem finT7 {x0 x1 x2 x3 x4 x5 x6 : D} {μ : Sto} : finT [.val x0, .val x1, .val x2, .val x3, .val x4, .val x5, .val x6] μ = some (.ok (.val (.tup [x0, x1, x2, x3, x4, x5, x6])), μ) := finT_vals rfl (by simp)
theorem finT8 {x0 x1 x2 x3 x4 x5 x6 x7 : D} {μ : Sto} : finT [.val x0, .val x1, .val x2, .val x3, .val x4, .val x5, .val x6, .val x7] μ = some (.ok (.val (.tup [x0, x1, x2, x3, x4, x5, x6, x7])), μ) := finT_vals rfl (by simp)
def vwK : Option D → Option (List D) → Option (List D)
  | some d, some ds => some (d :: ds)
  | _, _ => none
theorem vwK_some {d : D} {ds : List D} : vwK (some d) (some ds) = some (d :: ds) := Eq.trans rfl rfl
theorem vws_nil {μ : Sto} : vws μ [] = some [] := Eq.trans rfl rfl
theorem vws_cons {μ : Sto} {s : S} {ss : List S} : vws μ (s :: ss) = vwK (vw μ s) (vws μ ss) := by
  show (match vw μ s, vws μ ss with
    | some d, some ds => some (d :: ds)
    | _, _ => none) = _
  unfold vwK
  rcases vw μ s with _ | d
  · rfl
  · rcases vws μ ss with _ | ds <;> rfl
def opsK (op : List D → Option S) : Option (List D) → Option S
  | some xs => op xs
  | none => none
theorem opsK_some {op : List D → Option S} {xs : List D} : opsK op (some xs) = op xs := Eq.trans rfl rfl
theorem finB_ap {op : List D → Option S} {ss : List S} {μ : Sto} : finB op ss μ = fin2K μ (opsK op (vws μ ss)) := by
  unfold finB opsK fin2K
  rcases vws μ ss with _ | xs
  · rfl
  · dsimp only
    all_goals (cases op xs <;> rfl)
theorem len_scr {ns : List Int} : bLen [.scr ns] = some (.val (.int ns.length)) := Eq.trans rfl rfl
theorem len_lst {ns : List D} : bLen [.lst ns] = some (.val (.int ns.length)) := Eq.trans rfl rfl
theorem len_tup {ns : List D} : bLen [.tup ns] = some (.val (.int ns.length)) := Eq.trans rfl rfl
theorem abs_i {i : Int} : bAbs [.int i] = some (.val (.int (i.natAbs : Int))) := by
  show some (S.val (.int (if i < 0 then -i else i))) = _
  congr 3
  split <;> omega
theorem min_ii {i j : Int} : bMin [.int i, .int j] = some (.val (.int (if j < i then j else i))) := Eq.trans rfl rfl
theorem int_b {b : Bool} : bInt [.bl b] = some (.val (.int (if b = true then 1 else 0))) := Eq.trans rfl rfl
theorem int_i {i : Int} : bInt [.int i] = some (.val (.int i)) := Eq.trans rfl rfl
def seqK : Option (Fl × En × Sto) → MS → Option (Fl × En × Sto)
  | some (.nx, ρ, μ), b => b ρ μ
  | r, _ => r
theorem seqK_nx {ρ : En} {μ : Sto} {b : MS} : seqK (some (.nx, ρ, μ)) b = b ρ μ := Eq.trans rfl rfl
theorem seqK_rt {s : S} {ρ : En} {μ : Sto} {b : MS} : seqK (some (.rt s, ρ, μ)) b = some (.rt s, ρ, μ) := Eq.trans rfl rfl
theorem seqK_ex {x : Ex} {ρ : En} {μ : Sto} {b : MS} : seqK (some (.ex x, ρ, μ)) b = some (.ex x, ρ, μ) := Eq.trans rfl rfl
theorem seqK_bk {ρ : En} {μ : Sto} {b : MS} : seqK (some (.bk, ρ, μ)) b = some (.bk, ρ, μ) := Eq.trans rfl rfl
theorem seqK_ct {ρ : En} {μ : Sto} {b : MS} : seqK (some (.ct, ρ, μ)) b = some (.ct, ρ, μ) := Eq.trans rfl rfl
theorem seqK_if {c : Prop} [Decidable c] {x y : Option (Fl × En × Sto)} {b : MS} : seqK (if c then x else y) b = if c then seqK x b else seqK y b := by split <;> rfl
theorem sSeq_ap {a b : MS} {ρ : En} {μ : Sto} : sSeq a b ρ μ = seqK (a ρ μ) b := by
  unfold sSeq seqK
  rcases a ρ μ with _ | ⟨fl, ρ1, μ1⟩
  · rfl
  · cases fl <;> rfl
theorem sNil_ap {ρ : En} {μ : Sto} : sNil ρ μ = some (.nx, ρ, μ) := Eq.trans rfl rfl
theorem sRet_ap {m : ME} {ρ : En} {μ : Sto} : sRet m ρ μ = exThen (m ρ μ) ρ fun s μ1 => some (.rt s, ρ, μ1) := Eq.trans rfl rfl
theorem sIf_ap {t : MT} {a b : MS} {ρ : En} {μ : Sto} : sIf t a b ρ μ = exThen (t ρ μ) ρ fun c μ1 => if c = true then a ρ μ1 else b ρ μ1 := Eq.trans rfl rfl
theorem sExpr_ap {m : ME} {ρ : En} {μ : Sto} : sExpr m ρ μ = exThen (m ρ μ) ρ fun _ μ1 => some (.nx, ρ, μ1) := Eq.trans rfl rfl
def nxK : Option (En × Sto) → Option (Fl × En × Sto)
  | some (ρ, μ) => some (.nx, ρ, μ)
  | none => none
theorem nxK_some {ρ : En} {μ : Sto} : nxK (some (ρ, μ)) = some (.nx, ρ, μ) := Eq.trans rfl rfl
theorem sAsg_ap {t : MG} {m : ME} {ρ : En} {μ : Sto} : sAsg t m ρ μ = exThen (m ρ μ) ρ fun s μ1 => nxK (t s ρ μ1) := by
  unfold sAsg
  congr
theorem gNm_ap {i : Nat} {fl : Bool} {s : S} {ρ : En} {μ : Sto} : gNm i fl s ρ μ = some (ρ.set i (some (own fl s μ).1), (own fl s μ).2) := Eq.trans rfl rfl
theorem own_false {s : S} {μ : Sto} : own false s μ = (rt s, μ) := by
  cases s with
  | pot j is ds => cases j <;> rfl
  | _ => rfl
theorem own_val {fl : Bool} {d : D} {μ : Sto} : own fl (.val d) μ = (.val d, μ) := by cases fl <;> rfl
theorem own_cell {fl : Bool} {k : Nat} {μ : Sto} : own fl (.cell k) μ = (.cell k, μ) := by cases fl <;> rfl
theorem own_fr {ds : List D} {μ : Sto} : own true (.fr ds) μ = (.cell μ.length, μ ++ [.lst ds]) := Eq.trans rfl rfl
def par2K (i j : Nat) (ρ : En) (μ : Sto) : List S → Option (Fl × En × Sto)
  | [s, t] => some (.nx, (ρ.set i (some s)).set j (some t), μ)
  | _ => none
theorem sPar2_ap {i j : Nat} {ms : List (Bool × ME)} {ρ : En} {μ : Sto} : sPar2 i j ms ρ μ = exThen (mOwns ms ρ μ) ρ fun ss μ1 => par2K i j ρ μ1 ss := by
  unfold sPar2
  congr
theorem par2K_ap {i j : Nat} {ρ : En} {μ : Sto} {s t : S} : par2K i j ρ μ [s, t] = some (.nx, (ρ.set i (some s)).set j (some t), μ) := Eq.trans rfl rfl
theorem gVals_nil {ρ : En} {μ : Sto} : gVals [] [] ρ μ = some (ρ, μ) := Eq.trans rfl rfl
def gVK (ts : List MG) (ds : List D) : Option (En × Sto) → Option (En × Sto)
  | some (ρ1, μ1) => gVals ts ds ρ1 μ1
  | none => none
theorem gVK_some {ts : List MG} {ds : List D} {ρ : En} {μ : Sto} : gVK ts ds (some (ρ, μ)) = gVals ts ds ρ μ := Eq.trans rfl rfl
theorem gVals_cons {t : MG} {ts : List MG} {d : D} {ds : List D} {ρ : En} {μ : Sto} : gVals (t :: ts) (d :: ds) ρ μ = gVK ts ds (t (.val d) ρ μ) := by
  show (match t (.val d) ρ μ with | some (ρ1, μ1) => gVals ts ds ρ1 μ1 | none => none) = _
  rcases t (.val d) ρ μ with _ | ⟨_, _⟩ <;> rfl
theorem gTu_tup {ts : List MG} {ds : List D} {ρ : En} {μ : Sto} : gTu ts (.val (.tup ds)) ρ μ = gVals ts ds ρ μ := Eq.trans rfl rfl
theorem gTu_lst {ts : List MG} {ds : List D} {ρ : En} {μ : Sto} : gTu ts (.val (.lst ds)) ρ μ = gVals ts ds ρ μ := Eq.trans rfl rfl
theorem gTu_fr {ts : List MG} {ds : List D} {ρ : En} {μ : Sto} : gTu ts (.fr ds) ρ μ = gVals ts ds ρ μ := Eq.trans rfl rfl
/-- l[i] = v of a cell -/
theorem gSub_cell {o i : ME} {s : S} {ρ : En} {μ : Sto} {d : D} {k p : Nat} {j : Int} {ds : List D} (hs : rt s = .val d) (ho : o ρ μ = some (.ok (.cell k), μ)) (hi : i ρ μ = some (.ok (.val (.int j)), μ)) (hk : μ[k]? = some (.lst ds)) (hp : ixN ds.length j = some p) :
    gSubM o i s ρ μ = some (ρ, μ.set k (.lst (ds.set p d))) := by
  unfold gSubM
  rw [hs]
  unfold toD
  dsimp only
  rw [ho]
  dsimp only
  rw [hi]
  dsimp only
  rw [show rt (.cell k) = .cell k from rfl, show vw μ (.val (.int j)) = some (.int j) from rfl]
  dsimp only
  rw [hk]
  dsimp only
  rw [hp]
theorem finF_nx {n : Nat} {ρ : En} {μ : Sto} : finF n (some (.nx, ρ, μ)) = some (.ok (.val .non), μ.take n) := Eq.trans rfl rfl
theorem finF_ex {n : Nat} {ρ : En} {μ : Sto} {x : Ex} : finF n (some (.ex x, ρ, μ)) = some (.error x, μ.take n) := Eq.trans rfl rfl
theorem finF_rt {n : Nat} {ρ : En} {μ : Sto} {s : S} : finF n (some (.rt s, ρ, μ)) = finR n μ s := Eq.trans rfl rfl
theorem finR_val {n : Nat} {μ : Sto} {d : D} : finR n μ (.val d) = some (.ok (.val d), μ.take n) := Eq.trans rfl rfl
def chK (op' : D → D → Option S) (c : ME) (s2 : S) (ρ : En) (μ : Sto) : Option Bool → Option R
  | some true => andThen (c ρ μ) fun s4 μ4 => fin2 op' μ4 s2 s4
  | some false => some (.ok (.val (.bl false)), μ)
  | none => none
theorem chK_some {op' : D → D → Option S} {c : ME} {s2 : S} {ρ : En} {μ : Sto} {b : Bool} : chK op' c s2 ρ μ (some b) = if b = true then andThen (c ρ μ) (fun s4 μ4 => fin2 op' μ4 s2 s4) else some (.ok (.val (.bl false)), μ) := by cases b <;> rfl
theorem mChain_ap {op op' : D → D → Option S} {a b c : ME} {ρ : En} {μ : Sto} : mChain op op' a b c ρ μ = andThen (a ρ μ) fun s1 μ1 => andThen (b ρ μ1) fun s2 μ2 => andThen (fin2 op μ2 (rt s1) (rt s2)) fun s3 μ3 => chK op' c (rt s2) ρ μ3 (bl? s3) := Eq.trans rfl rfl
theorem finR_fr {n : Nat} {μ : Sto} {d : List D} : finR n μ (.fr d) = some (.ok (.fr d), μ.take n) := Eq.trans rfl rfl
theorem finF_if {n : Nat} {c : Prop} [Decidable c] {x y : Option (Fl × En × Sto)} : finF n (if c then x else y) = if c then finF n x else finF n y := by split <;> rfl
theorem mCallF_ap {fi : FnI} {n : Nat} {ks : List Str} {ms kms : List ME} {ρ : En} {μ : Sto} : mCallF fi n ks ms kms ρ μ = andThen (mArgs ms ρ μ) fun ss μ1 => andThen (mArgs kms ρ μ1) fun ts μ2 => callF fi n ks ss ts μ2 := Eq.trans rfl rfl
theorem mMake_ap {mi : MkI} {n : Nat} {ks : List Str} {ms kms : List ME} {ρ : En} {μ : Sto} : mMake mi n ks ms kms ρ μ = andThen (mArgs ms ρ μ) fun ss μ1 => andThen (mArgs kms ρ μ1) fun ts μ2 => callM mi n ks ss ts μ2 := Eq.trans rfl rfl
theorem callF_eq {fi : FnI} {n : Nat} {ks : List Str} {ss ts bs : List S} {μ : Sto} (h1 : ss.length = n) (h2 : ts.length = ks.length) (hb : bindG ks ss ts (fi.dfl.map .val) fi.ps.length fi.ps 0 = some bs) : callF fi n ks ss ts μ = fi.sem bs μ := by
  unfold callF
  rw [if_pos ⟨h1, h2⟩, hb]
theorem callM_eq {mi : MkI} {n : Nat} {ks : List Str} {ss ts bs : List S} {μ : Sto} (h1 : ss.length = n) (h2 : ts.length = ks.length) (hb : bindG ks (.cell μ.length :: ss) ts (mi.fi.dfl.map .val) mi.fi.ps.length mi.fi.ps 0 = some bs) : callM mi n ks ss ts μ = finM mi μ.length (mi.fi.sem bs (μ ++ [.ins mi.c []])) := by
  unfold callM
  rw [if_pos ⟨h1, h2⟩, hb]
theorem mAttr_ap {fls : List (List Str)} {f : Str} {a : ME} {ρ : En} {μ : Sto} : mAttr fls f a ρ μ = andThen (a ρ μ) (finA fls f) := Eq.trans rfl rfl
def fldK (μ : Sto) (fs : List D) : Option Nat → Option R
  | some k => (match fs[k]? with
    | some d => some (.ok (.val d), μ)
    | none => none)
  | none => none
theorem finA_obj {fls : List (List Str)} {f : Str} {c : Nat} {fs : List D} {μ : Sto} : finA fls f (.val (.obj c fs)) μ = fldK μ fs (fldIx fls c f) := by
  unfold finA fldK
  dsimp only
  all_goals (rcases fldIx fls c f with _ | k <;> first | rfl | (dsimp only; all_goals (rcases fs[k]? with _ | d <;> rfl)))
theorem ite_true' {α : Type} {x y : α} : (if (true = true) then x else y) = x := if_pos rfl
theorem ite_false' {α : Type} {x y : α} : (if (false = true) then x else y) = y := if_neg Bool.false_ne_true
theorem ite_T {α : Type} {h : Decidable True} {x y : α} : @ite α True h x y = x := if_pos trivial
theorem ite_F {α : Type} {h : Decidable False} {x y : α} : @ite α False h x y = y := if_neg id
def forK (t : MG) (b : MS) (ds : List D) : Option (Fl × En × Sto) → Option (Fl × En × Sto)
  | some (.nx, ρ2, μ2) => floop t b ds ρ2 μ2
  | some (.ct, ρ2, μ2) => floop t b ds ρ2 μ2
  | some (.bk, ρ2, μ2) => some (.nx, ρ2, μ2)
  | r => r
theorem floop_cons {t : MG} {b : MS} {d : D} {ds : List D} {ρ ρ1 : En} {μ μ1 : Sto} (h : t (.val d) ρ μ = some (ρ1, μ1)) : floop t b (d :: ds) ρ μ = forK t b ds (b ρ1 μ1) := by
  show (match t (.val d) ρ μ with
    | none => none
    | some (ρ1, μ1) => match b ρ1 μ1 with
      | some (.nx, ρ2, μ2) => floop t b ds ρ2 μ2
      | some (.ct, ρ2, μ2) => floop t b ds ρ2 μ2
      | some (.bk, ρ2, μ2) => some (.nx, ρ2, μ2)
      | r => r) = _
  rw [h]
  show (match b ρ1 μ1 with
      | some (.nx, ρ2, μ2) => floop t b ds ρ2 μ2
      | some (.ct, ρ2, μ2) => floop t b ds ρ2 μ2
      | some (.bk, ρ2, μ2) => some (.nx, ρ2, μ2)
      | r => r) = _
  unfold forK
  rcases b ρ1 μ1 with _ | ⟨fl, ρ2, μ2⟩
  · rfl
  · cases fl <;> rfl
/-- a loop whose body always comes to its end: an invariant -/
theorem floop_inv {t : MG} {b : MS} (I : En → Sto → Prop) (P : D → Prop) (step : ∀ d ρ μ, P d → I ρ μ → ∃ ρ1 μ1, t (.val d) ρ μ = some (ρ1, μ1) ∧ ∃ ρ2 μ2, b ρ1 μ1 = some (.nx, ρ2, μ2) ∧ I ρ2 μ2) :
    ∀ (ds : List D) (ρ : En) (μ : Sto), (∀ d ∈ ds, P d) → I ρ μ → ∃ ρ' μ', floop t b ds ρ μ = some (.nx, ρ', μ') ∧ I ρ' μ'
  | [], ρ, μ, _, h => ⟨ρ, μ, rfl, h⟩
  | d :: ds, ρ, μ, hp, h => by
    obtain ⟨ρ1, μ1, e1, ρ2, μ2, e2, h2⟩ := step d ρ μ (hp d List.mem_cons_self) h
    obtain ⟨ρ', μ', e3, h3⟩ := floop_inv I P step ds ρ2 μ2 (fun x hx => hp x (List.mem_cons_of_mem _ hx)) h2
    refine ⟨ρ', μ', ?_, h3⟩
    rw [floop_cons e1, e2]
    exact e3
theorem sFor_ap {i : MI} {t : MG} {b : MS} {ρ : En} {μ : Sto} : sFor i t b ρ μ = exThen (i ρ μ) ρ fun ds μ1 => floop t b ds ρ μ1 := Eq.trans rfl rfl
theorem iVal_ap {m : ME} {ρ : En} {μ : Sto} : iVal m ρ μ = andThen (m ρ μ) (finI itemsOf) := Eq.trans rfl rfl
theorem finI_lst {ds : List D} {μ : Sto} : finI itemsOf (.val (.lst ds)) μ = some (.ok ds, μ) := Eq.trans rfl rfl
theorem finI_fr {ds : List D} {μ : Sto} : finI itemsOf (.fr ds) μ = some (.ok ds, μ) := Eq.trans rfl rfl
theorem finI_tup {ds : List D} {μ : Sto} : finI itemsOf (.val (.tup ds)) μ = some (.ok ds, μ) := Eq.trans rfl rfl
theorem iRange1_eq {a : ME} {ρ : En} {μ μ1 : Sto} {j : Int} (h : a ρ μ = some (.ok (.val (.int j)), μ1)) (hj : inR j = true) : iRange1 a ρ μ = some (.ok (rangeD 0 j.toNat), μ1) := by
  unfold iRange1
  rw [mArgs_cons, h]
  show (if inR j = true then _ else _) = _
  rw [if_pos hj]
theorem wloop_go {t : MT} {b : MS} {n : Nat} {ρ ρ2 : En} {μ μ1 μ2 : Sto} (h1 : t ρ μ = some (.ok true, μ1)) (h2 : b ρ μ1 = some (.nx, ρ2, μ2)) : wloop t b (n + 1) ρ μ = wloop t b n ρ2 μ2 := by
  show exThen (t ρ μ) ρ _ = _
  rw [h1]
  show (if true = true then (match b ρ μ1 with
      | some (.nx, ρ2, μ2) => wloop t b n ρ2 μ2
      | some (.ct, ρ2, μ2) => wloop t b n ρ2 μ2
      | some (.bk, ρ2, μ2) => some (.nx, ρ2, μ2)
      | r => r) else some (.nx, ρ, μ1)) = _
  rw [if_pos rfl, h2]
theorem wloop_stop {t : MT} {b : MS} {n : Nat} {ρ : En} {μ μ1 : Sto} (h1 : t ρ μ = some (.ok false, μ1)) : wloop t b (n + 1) ρ μ = some (.nx, ρ, μ1) := by
  show exThen (t ρ μ) ρ _ = _
  rw [h1]
  rfl
/-- a hand at k, drawn from at most n times -/
def HandAt (μ : Sto) (k n : Nat) : Prop := ∃ a b c : Int, μ[k]? = some (.lst [.int a, .int b, .int c]) ∧ 0 ≤ b ∧ b < 2 ^ 61 ∧ 0 ≤ c ∧ c ≤ n
/-- only k's cell is otherwise -/
def Upd (k : Nat) (μ μ' : Sto) : Prop := μ'.length = μ.length ∧ ∀ j, j ≠ k → μ'[j]? = μ[j]?
theorem Upd.refl {k : Nat} {μ : Sto} : Upd k μ μ := ⟨rfl, fun _ _ => rfl⟩
theorem Upd.trans {k : Nat} {μ μ1 μ2 : Sto} (a : Upd k μ μ1) (b : Upd k μ1 μ2) : Upd k μ μ2 := ⟨b.1.trans a.1, fun j h => (b.2 j h).trans (a.2 j h)⟩
theorem Upd.set {k : Nat} {μ : Sto} {c : C} : Upd k μ (μ.set k c) := ⟨List.length_set, fun j h => List.getElem?_set_ne (Ne.symm h)⟩
theorem Upd.take {k : Nat} {μ μ' : Sto} (h : Upd k μ μ') : μ'.take μ.length = μ' := List.take_of_length_le (Nat.le_of_eq h.1)
theorem HandAt.mono {μ : Sto} {k n m : Nat} (h : HandAt μ k n) (e : n ≤ m) : HandAt μ k m := by
  obtain ⟨a, b, c, h1, h2, h3, h4, h5⟩ := h
  exact ⟨a, b, c, h1, h2, h3, h4, by omega⟩
theorem get_set {μ : Sto} {k : Nat} {x c : C} (h : μ[k]? = some x) : (μ.set k c)[k]? = some c := List.getElem?_set_self (List.getElem?_eq_some_iff.mp h).1
theorem get_end {α : Type} {μ : List α} {x : α} : (μ ++ [x])[μ.length]? = some x := by rw [List.getElem?_append_right (Nat.le_refl _), Nat.sub_self]; rfl
theorem set_end {α : Type} {μ : List α} {x y : α} : (μ ++ [x]).set μ.length y = μ ++ [y] := by
  rw [List.set_append_right _ _ (Nat.le_refl _), Nat.sub_self]; rfl
theorem take_end {α : Type} {μ : List α} {x : α} : (μ ++ [x]).take μ.length = μ := by rw [List.take_left]
theorem fld_ap {n : Nat} {f : Str} {o m : ME} {ρ : En} {μ : Sto} {d : D} {k c : Nat} {fs : List (Str × D)} (hm : m ρ μ = some (.ok (.val d), μ)) (ho : o ρ μ = some (.ok (.cell k), μ)) (hk : μ[k]? = some (.ins c fs)) (hc : c < n) (hl : fs.length < 1000) :
    sFldM n f o m ρ μ = some (.nx, ρ, μ.set k (.ins c (putD f d fs))) := by
  unfold sFldM
  rw [hm]
  show exThen (o ρ μ) ρ _ = _
  rw [ho]
  show (match μ[k]? with
      | some (.ins c fs) => if c < n ∧ fs.length < 1000 then some (Fl.nx, ρ, μ.set k (.ins c (putD f d fs))) else none
      | _ => none) = _
  rw [hk]
  exact if_pos ⟨hc, hl⟩
theorem finM_ap {mi : MkI} {k c : Nat} {fs : List (Str × D)} {μ : Sto} (hk : μ[k]? = some (.ins c fs)) (hc : c = mi.c) (hf : fs.map (·.1) = mi.fl) : finM mi k (some (.ok (.val .non), μ)) = some (.ok (.val (.obj mi.c (fs.map (·.2)))), μ.take k) := by
  unfold finM
  dsimp only
  rw [hk]
  exact if_pos ⟨hc, hf⟩
/-- Euclid's loop by remainders: what it comes to -/
theorem euclid {t : MT} {b : MS} {mk : Nat → Nat → En} {μ : Sto} (h0 : ∀ x, t (mk x 0) μ = some (.ok false, μ)) (h1 : ∀ x y, 0 < y → t (mk x y) μ = some (.ok true, μ)) (h2 : ∀ x y, 0 < y → b (mk x y) μ = some (.nx, mk y (x % y), μ)) :
    ∀ (y x : Nat), ∃ n, wloop t b n (mk x y) μ = some (.nx, mk (Nat.gcd x y) 0, μ) := by
  intro y
  induction y using Nat.strongRecOn with
  | ind y ih =>
    intro x
    by_cases hy : y = 0
    · subst hy
      exact ⟨1, by rw [wloop_stop (h0 x), Nat.gcd_zero_right]⟩
    · obtain ⟨n, hn⟩ := ih (x % y) (Nat.mod_lt _ (Nat.pos_of_ne_zero hy)) y
      refine ⟨n + 1, ?_⟩
      rw [wloop_go (h1 x y (Nat.pos_of_ne_zero hy)) (h2 x y (Nat.pos_of_ne_zero hy)), hn]
      congr 3
      rw [Nat.gcd_comm y, ← Nat.gcd_rec, Nat.gcd_comm]
theorem mComp_ap {i : MI} {t : MG} {c : MT} {el : ME} {ow : List Nat} {ρ : En} {μ : Sto} : mComp i t c el ow ρ μ = andThen (i ρ μ) fun ds μ1 => finC μ1.length (cloop t c el (wipeE ρ ow) μ1.length ds (μ1 ++ [.lst []])) := Eq.trans rfl rfl
theorem cput_end {μ : Sto} {acc : List D} {d : D} (h : acc.length < 1000) : cput μ.length (.val d) (μ ++ [.lst acc]) = some (μ ++ [.lst (acc ++ [d])]) := by
  have e : toD (μ ++ [C.lst acc]) (rt (.val d)) = some (d, μ ++ [C.lst acc]) := Eq.trans rfl rfl
  unfold cput
  rw [e]
  dsimp only
  rw [get_end]
  dsimp only
  rw [if_pos (Nat.lt_of_lt_of_le h (by decide)), set_end]
theorem add_ll {a b : List D} (h : a.length + b.length ≤ 1000) : dAdd (.lst a) (.lst b) = some (.fr (a ++ b)) := by
  show (if a.length + b.length ≤ sizeLine then _ else _) = _
  exact if_pos (Nat.le_trans h (by decide))
theorem is_non {x : D} : dIs x .non = some (.val (.bl (isNon x))) := Eq.trans rfl rfl
theorem isnot_non {x : D} : dIsNot x .non = some (.val (.bl (!isNon x))) := Eq.trans rfl rfl
theorem isNon_non : isNon .non = true := Eq.trans rfl rfl
theorem isNon_int {i : Int} : isNon (.int i) = false := Eq.trans rfl rfl
theorem isNon_tup {ds : List D} : isNon (.tup ds) = false := Eq.trans rfl rfl
theorem isNon_obj {c : Nat} {ds : List D} : isNon (.obj c ds) = false := Eq.trans rfl rfl
theorem eq_bb {a b : Bool} : dEq (.bl a) (.bl b) = some (.val (.bl (a == b))) := by cases a <;> cases b <;> rfl
end Sz
set_option Elab.async false
set_option linter.all false
set_option maxRecDepth 100000
set_option maxHeartbeats 4000000
namespace Sz
open PySem PySem.Spec L2
/-- a loop whose body always comes to its end: an invariant by the turn's number -/
theorem floop_ix {t : MG} {b : MS} (I : Nat → En → Sto → Prop) : ∀ (ds : List D) (k : Nat) (ρ : En) (μ : Sto),
    (∀ i d ρ μ, ds[i]? = some d → I (k + i) ρ μ → ∃ ρ1 μ1, t (.val d) ρ μ = some (ρ1, μ1) ∧ ∃ ρ2 μ2, b ρ1 μ1 = some (.nx, ρ2, μ2) ∧ I (k + i + 1) ρ2 μ2) → I k ρ μ →
    ∃ ρ' μ', floop t b ds ρ μ = some (.nx, ρ', μ') ∧ I (k + ds.length) ρ' μ'
  | [], k, ρ, μ, _, h => ⟨ρ, μ, rfl, h⟩
  | d :: ds, k, ρ, μ, step, h => by
    obtain ⟨ρ1, μ1, e1, ρ2, μ2, e2, h2⟩ := step 0 d ρ μ rfl h
    obtain ⟨ρ', μ', e3, h3⟩ := floop_ix I ds (k + 1) ρ2 μ2 (fun i x ρ μ hx hI => by
      have e : k + 1 + i = k + (i + 1) := by omega
      rw [e] at hI ⊢
      exact step (i + 1) x ρ μ (by rw [List.getElem?_cons_succ]; exact hx) hI) h2
    refine ⟨ρ', μ', ?_, ?_⟩
    · rw [floop_cons e1, e2]
      exact e3
    · rw [List.length_cons, show k + (ds.length + 1) = k + 1 + ds.length by omega]
      exact h3
theorem rangeD_mem' {lo : Int} {n : Nat} {d : D} (h : d ∈ rangeD lo n) : ∃ i : Nat, i < n ∧ d = .int (lo + i) := by
  unfold rangeD at h
  obtain ⟨i, hi, rfl⟩ := List.mem_map.mp h
  exact ⟨i, List.mem_range.mp hi, rfl⟩
theorem rangeD_len {lo : Int} {n : Nat} : (rangeD lo n).length = n := by
  unfold rangeD
  rw [List.length_map, List.length_range]
theorem inR_of {i : Int} (h : i.natAbs < 2 ^ 61) : inR i = true := by
  unfold inR
  rw [Bool.and_eq_true, decide_eq_true_eq, decide_eq_true_eq]
  omega
end Sz
namespace Sz
open PySem PySem.Spec L2
end Sz
namespace Sz
open PySem PySem.Spec L2
end Sz
namespace Sz
open PySem PySem.Spec L2
theorem cutD_to {ds : List D} {n : Nat} : cutD ds none (some (n : Int)) = ds.take n := by
  unfold cutD
  have e0 : HT.sIx ds.length 0 none = 0 := by unfold HT.sIx; rfl
  have e1 : HT.sIx ds.length ds.length (some (n : Int)) = min n ds.length := by unfold HT.sIx; simp; omega
  rw [e0, e1, List.drop_zero, Nat.sub_zero]
  by_cases h : n ≤ ds.length
  · rw [Nat.min_eq_left h]
  · rw [Nat.min_eq_right (by omega), List.take_of_length_le (Nat.le_refl _), List.take_of_length_le (by omega)]
theorem cutD_from {ds : List D} {n : Nat} : cutD ds (some (n : Int)) none = ds.drop n := by
  unfold cutD
  have e0 : HT.sIx ds.length 0 (some (n : Int)) = min n ds.length := by unfold HT.sIx; simp; omega
  have e1 : HT.sIx ds.length ds.length none = ds.length := by unfold HT.sIx; rfl
  rw [e0, e1]
  by_cases h : n ≤ ds.length
  · rw [Nat.min_eq_left h, List.take_of_length_le (by rw [List.length_drop]; exact Nat.le_refl _)]
  · rw [Nat.min_eq_right (by omega), List.drop_of_length_le (Nat.le_refl _), List.drop_of_length_le (by omega), List.take_nil]
end Sz
namespace Sz
open PySem PySem.Spec L2
/-- rising, one by one -/
def RiseL {α : Type} [LT α] (l : List α) : Prop := ∀ i (h : i + 1 < l.length), l[i] < l[i + 1]
theorem RiseL.map {α β : Type} [LT α] [LT β] {f : α → β} (hf : ∀ a b, f a < f b ↔ a < b) {l : List α} : RiseL (l.map f) ↔ RiseL l := by
  unfold RiseL
  constructor
  · intro h i hi
    have := h i (by rw [List.length_map]; exact hi)
    rw [List.getElem_map, List.getElem_map] at this
    exact (hf _ _).mp this
  · intro h i hi
    rw [List.getElem_map, List.getElem_map]
    exact (hf _ _).mpr (h i (by rw [List.length_map] at hi; exact hi))
end Sz
namespace Sz
open PySem PySem.Spec L2
theorem fnS_1_1 {c : MS} {x0 : S} {μ : Sto} : fnSem 2 c [x0] μ = finF μ.length (c [some x0, none] μ) := Eq.trans rfl rfl
theorem fnS_1_2 {c : MS} {x0 : S} {μ : Sto} : fnSem 3 c [x0] μ = finF μ.length (c [some x0, none, none] μ) := Eq.trans rfl rfl
theorem fnS_1_3 {c : MS} {x0 : S} {μ : Sto} : fnSem 4 c [x0] μ = finF μ.length (c [some x0, none, none, none] μ) := Eq.trans rfl rfl
theorem fnS_1_4 {c : MS} {x0 : S} {μ : Sto} : fnSem 5 c [x0] μ = finF μ.length (c [some x0, none, none, none, none] μ) := Eq.trans rfl rfl
theorem fnS_1_5 {c : MS} {x0 : S} {μ : Sto} : fnSem 6 c [x0] μ = finF μ.length (c [some x0, none, none, none, none, none] μ) := Eq.trans rfl rfl
theorem fnS_1_7 {c : MS} {x0 : S} {μ : Sto} : fnSem 8 c [x0] μ = finF μ.length (c [some x0, none, none, none, none, none, none, none] μ) := Eq.trans rfl rfl
theorem fnS_1_8 {c : MS} {x0 : S} {μ : Sto} : fnSem 9 c [x0] μ = finF μ.length (c [some x0, none, none, none, none, none, none, none, none] μ) := Eq.trans rfl rfl
theorem fnS_1_9 {c : MS} {x0 : S} {μ : Sto} : fnSem 10 c [x0] μ = finF μ.length (c [some x0, none, none, none, none, none, none, none, none, none] μ) := Eq.trans rfl rfl
theorem fnS_2_5 {c : MS} {x0 x1 : S} {μ : Sto} : fnSem 7 c [x0, x1] μ = finF μ.length (c [some x0, some x1, none, none, none, none, none] μ) := Eq.trans rfl rfl
end Sz
namespace Sz
open PySem PySem.Spec L2
theorem bls_map {α : Type} {f : α → Bool} : ∀ {l : List α}, bls? (l.map fun x => .bl (f x)) = some (l.map f)
  | [] => rfl
  | a :: l => by
    show (bls? (l.map fun x => .bl (f x))).map (f a :: ·) = _
    rw [bls_map]
    rfl
theorem all_map {α : Type} {f : α → Bool} {l : List α} : bAll [.lst (l.map fun x => .bl (f x))] = some (.val (.bl ((l.map f).all id))) := by
  show (bls? _).map _ = _
  rw [bls_map]
  rfl
def slK2 (μ : Sto) : Option S → Option R
  | some s => some (.ok s, μ)
  | none => none
theorem slK_some {μ : Sto} {lo hi : Option Int} {d : D} : slK μ lo hi (some d) = slK2 μ (dSl d lo hi) := by
  unfold slK
  dsimp only
  unfold slK2
  cases dSl d lo hi <;> rfl
theorem slK2_some {μ : Sto} {s : S} : slK2 μ (some s) = some (.ok s, μ) := Eq.trans rfl rfl
theorem mSl_ap {a : ME} {lo hi : MO} {ρ : En} {μ : Sto} : mSl a lo hi ρ μ = andThen (a ρ μ) fun s μ1 => andThen (lo ρ μ1) fun l μ2 => andThen (hi ρ μ2) fun u μ3 => slK μ3 l u (vw μ3 (rt s)) := Eq.trans rfl rfl
theorem oNone_ap {ρ : En} {μ : Sto} : oNone ρ μ = some (.ok none, μ) := Eq.trans rfl rfl
theorem oSome_ap {m : ME} {ρ : En} {μ : Sto} : oSome m ρ μ = andThen (m ρ μ) fun s μ1 => intK μ1 (vw μ1 s) := Eq.trans rfl rfl
theorem intK_some {μ : Sto} {i : Int} : intK μ (some (.int i)) = some (.ok (some i), μ) := Eq.trans rfl rfl
end Sz
namespace Sz
open PySem PySem.Spec L2
end Sz
set_option Elab.async false
set_option linter.all false
set_option maxRecDepth 100000
set_option maxHeartbeats 4000000
namespace HT
open PySem PySem.Spec PyProof.Rows L2
section
variable {prog : Program} {w : World} {A : Around} {E : Value → Shared → Prop} {s : Shared}
theorem places_rev (n : Nat) : Builtin.Slice.slicePlaces ((n : Int) - 1) (-1) (-1) = n := by
  unfold Builtin.Slice.slicePlaces
  rw [if_neg (by decide)]
  by_cases h : n = 0
  · subst h; rfl
  · rw [if_pos (by omega), show -(-1 : Int) = 1 by rfl, Int.ediv_one]
    omega
theorem sliceApplied_rev {sl : Addr} {vl vu vs : Value} {n : Nat} {Q : Int × Int × Nat → Shared → Prop} (hs : s.heap.IsSliceOf sl vl vu vs) (pl : IsPart vl none) (pu : IsPart vu none) (ps : IsPart vs (some (-1)))
    (h : Q ((n : Int) - 1, -1, n) s) : wpAny (model prog w) A (Builtin.Slice.sliceApplied (.ref sl) (pure (n : Int))) Q E s := by
  obtain ⟨os, hos, hcs, hds⟩ := id hs
  unfold Builtin.Slice.sliceApplied Builtin.Slice.sliceFields
  refine wpAny_bind (wpAny_bind (wpAny_field hos hds (x := vl) rfl (wpAny_bind (wpAny_field hos hds (x := vu) rfl (wpAny_bind (wpAny_field hos hds (x := vs) rfl (wpAny_pure ?_)))))))
  refine wpAny_bind (slicePart_ ps ?_)
  show wpAny _ _ (if ((-1 : Int) == 0) = true then _ else _) _ _ s
  rw [if_neg (by decide)]
  refine wpAny_bind (slicePart_ pl (wpAny_bind (slicePart_ pu (wpAny_bind (wpAny_pure ?_)))))
  show wpAny _ _ (pure ((n : Int) - 1, (-1 : Int), Builtin.Slice.slicePlaces ((n : Int) - 1) (-1) (-1))) _ _ s
  rw [places_rev]
  exact wpAny_pure h
theorem fm_some {α β : Type} (f : α → Option β) (h : α → β) : ∀ l : List α, (∀ m ∈ l, f m = some (h m)) → l.filterMap f = l.map h
  | [], _ => rfl
  | x :: l, e => by
    rw [List.filterMap_cons_some (e x List.mem_cons_self), List.map_cons, fm_some f h l fun m hm => e m (List.mem_cons_of_mem _ hm)]
theorem pick_rev (xs : Array Value) : ((List.range xs.size).filterMap fun (m : Nat) => xs[(((xs.size : Int) - 1) + (m : Int) * -1).toNat]?).toArray = xs.toList.reverse.toArray := by
  congr 1
  refine List.ext_getElem? fun i => ?_
  have e : ∀ m ∈ List.range xs.size, xs[(((xs.size : Int) - 1) + (m : Int) * -1).toNat]? = some (xs.toList.reverse.getD m .none) := fun m hm => by
    have hm := List.mem_range.mp hm
    have e1 : (((xs.size : Int) - 1) + (m : Int) * -1).toNat = xs.size - 1 - m := by omega
    have h2 : m < xs.toList.reverse.length := by rw [List.length_reverse, Array.length_toList]; exact hm
    rw [e1, List.getD_eq_getElem?_getD, List.getElem?_eq_getElem h2, List.getElem_reverse, Array.getElem?_eq_getElem (by omega)]
    simp
  rw [fm_some _ _ _ e, List.getElem?_map]
  by_cases hi : i < xs.size
  · have h2 : i < xs.toList.reverse.length := by rw [List.length_reverse, Array.length_toList]; exact hi
    rw [List.getElem?_range hi, List.getElem?_eq_getElem h2, Option.map_some, List.getD_eq_getElem?_getD, List.getElem?_eq_getElem h2]
    rfl
  · rw [List.getElem?_eq_none (by rw [List.length_range]; omega), List.getElem?_eq_none (by rw [List.length_reverse, Array.length_toList]; omega)]
    rfl
theorem getItem_tuple_rev {t sl : Addr} {items : Array Value} {vl vu vs : Value} {Q : Value → Shared → Prop} (ht : IsTup s.heap t items) (hs : s.heap.IsSliceOf sl vl vu vs) (pl : IsPart vl none) (pu : IsPart vu none) (ps : IsPart vs (some (-1)))
    (h : Q (.ref s.heap.objs.size) { s with heap := s.heap.push { cls := .type "tuple", data := .seq items.toList.reverse.toArray } })
    (hsz : items.size ≤ sizeLine) : wpAny (model prog w) A (getItem (.ref t) (.ref sl)) Q E s := by
  have htake : sizeOk (.seq items.toList.reverse.toArray) := by
    show items.toList.reverse.toArray.size ≤ sizeLine
    rw [List.size_toArray, List.length_reverse, Array.length_toList]
    omega
  obtain ⟨os, hos, hcs, hds⟩ := id hs
  have hTs : s.TypeIs (.ref sl) "slice" := ⟨os, hos, hcs⟩
  unfold getItem
  try with_reducible refine wpAny_holding ?_
  first | refine wpAny_bind (wpAny_pure ?_) | skip
  refine wpAny_bind (wpAny_sequenceKey ht.typeIs (by decide) ?_)
  refine wpAny_bind (wpAny_callSpecial?_slot (name := Str.ofString "__getitem__") ht.typeIs PyProof.Rows.slot_tuple_getitem
    (wpAny_call_entry PyProof.Rows.slot_tuple_getitem ht.typeIs entry_tuple_getitem ?_ (args_tuple_getitem _ _)))
  show wpAny _ _ (Builtin.Tuple.tupleItemsOf (.ref t) >>= _) _ _ s
  refine wpAny_bind (tupleItemsOf_ ht ?_)
  refine wpAny_bind (wpAny_typeOf hTs ?_)
  rw [if_pos (by decide)]
  refine wpAny_bind (sliceApplied_rev hs pl pu ps ?_)
  have hno : ¬ ((((items.size : Int) - 1) == 0 && (-1 : Int) == 1 && items.size == items.size) = true) := by
    intro q
    rw [Bool.and_eq_true, Bool.and_eq_true] at q
    exact absurd q.1.2 (by decide)
  show wpAny _ _ (if (((items.size : Int) - 1) == 0 && (-1 : Int) == 1 && items.size == items.size) = true then _ else _) _ _ s
  rw [if_neg hno, pick_rev]
  first
    | exact wpAny_bind (m := Builtin.Tuple.tupleExact _) (wpAny_newObj_type (wpAny_pure ⟨_, rfl, wpAny_pure h⟩) htake)
    | exact wpAny_bind (m := Builtin.Tuple.tupleExact _) (wpAny_newObj_type (wpAny_bind (wpAny_pure (wpAny_pure ⟨_, rfl, wpAny_pure h⟩))) htake)
    | exact wpAny_bind (wpAny_bind (m := Builtin.Tuple.tupleExact _) (wpAny_newObj_type (wpAny_pure (wpAny_pure ⟨_, rfl, wpAny_pure h⟩)) htake))
    | exact wpAny_bind (wpAny_bind (m := Builtin.Tuple.tupleExact _) (wpAny_newObj_type (wpAny_pure ⟨_, rfl, wpAny_pure h⟩) htake))
end
end HT
namespace L2
open PySem PySem.Spec PyProof.Rows
section
variable {X : Cx}
/-- xs[::-1], a list or a tuple -/
def tRevX (K : PySem.W.Frag) (te : TE) : TE := fun σ H Q => te σ H fun x H1 => ∃ a xs, x = .ref a ∧
  ((SqL K H1 a xs ∧ ∀ p, H1 p = none → Q (.ref p) (upd H1 p (.lst xs.reverse))) ∨ (SqT K H1 a xs ∧ ∀ p, H1 p = none → Q (.ref p) (upd H1 p (.tup xs.reverse))))
theorem pe_revX {e : Expr} {te : TE} {k : Nat} {p1 p2 p3 pos : Pos} (he : PE X e te) : PE X (.Subscript e (.Slice none none (some (.UnaryOp .USub (.Constant (.int 1) k p1) p2)) p3) pos) (tRevX X.K te) := by
  refine ⟨fun pins s σ H Q I h => ?_⟩
  refine Subscript_ (thn (he.run pins s σ H _ I h) fun v s1 ⟨x, H1, I1, r1, q1⟩ => ?_)
  obtain ⟨a, xs, ex, q⟩ := q1
  subst ex
  cases r1
  have hst : PO X (some (.UnaryOp .USub (.Constant (.int 1) k p1) p2)) (tPart (tUn (rU fun i => .int (-i)) (tC (.int 1)))) := po_some (pe_un un_neg pe_int)
  refine wpAny_Slice (thn (po_none.run pins s1 σ H1 (fun o H2 => o = none ∧ H2 = H1) I1 ⟨rfl, rfl⟩) fun vl s2 ⟨l, H2, I2, pl, el, e2⟩ => ?_)
  subst el e2
  refine thn (po_none.run pins s2 σ H2 (fun o H3 => o = none ∧ H3 = H2) I2 ⟨rfl, rfl⟩) fun vu s3 ⟨u, H3, I3, pu, eu, e3⟩ => ?_
  subst eu e3
  refine thn (hst.run pins s3 σ H3 (fun o H4 => o = some (-1) ∧ H4 = H3) I3 ⟨1, rfl, -1, rfl, rfl, rfl⟩) fun vs s4 ⟨o, H4, I4, ps, eo, e4⟩ => ?_
  subst eo e4
  have I5 : Inv X pins σ H4 { s4 with heap := s4.heap.push { cls := .type "slice", data := .fields #[vl, vu, vs] } } := I4.kept (t' := s4.toks) fun b ob q => Heap.get?_push_of_some _ q
  show wpAny (model X.prog X.w) X.A (subscriptTail e (.Slice none none (some (.UnaryOp .USub (.Constant (.int 1) k p1) p2)) p3) (.ref a) (.ref s4.heap.objs.size)) (EP X pins σ Q) X.xe { s4 with heap := s4.heap.push { cls := .type "slice", data := .fields #[vl, vu, vs] } }
  rcases q with ⟨hx, q⟩ | ⟨hx, q⟩
  · obtain ⟨its, r, ht, hz⟩ := I5.list hx
    have hlen := r.length
    refine tail_any (ops := [.ref a, .ref s4.heap.objs.size]) ht.isList.typeIs (PySem.slot_list_getitem.lookup) ?_ (by with_unfolding_all rfl)
    refine wpAny_getItem_list_slice ht.isList (Heap.IsSliceOf.new _ vl vu vs) pl pu ps (by decide) ?_ (by rw [List.size_toArray]; omega)
    rw [PySem.W.krv_pick]
    refine ⟨.ref _, _, I5.laid (t' := s4.toks) (o := .lst xs.reverse) (fun b ob q => Heap.get?_push_of_some _ q) (Nat.le_refl _) ?_, rfl, q _ (I5.hok.fresh (Nat.le_refl _))⟩
    exact ⟨by rw [List.length_reverse]; exact hz, _, 0, r.reverse, Heap.get?_push_size _ rfl⟩
  · obtain ⟨its, r, ht, hz⟩ := I5.tuple hx
    have hlen := r.length
    refine tail_any (ops := [.ref a, .ref s4.heap.objs.size]) ht.typeIs (PyProof.Rows.slot_tuple_getitem.lookup) ?_ (by with_unfolding_all rfl)
    refine HT.getItem_tuple_rev ht (Heap.IsSliceOf.new _ vl vu vs) pl pu ps ?_ (by rw [List.size_toArray]; omega)
    refine ⟨.ref _, _, I5.laid (t' := s4.toks) (o := .tup xs.reverse) (fun b ob q => Heap.get?_push_of_some _ q) (Nat.le_refl _) ?_, rfl, q _ (I5.hok.fresh (Nat.le_refl _))⟩
    exact ⟨by rw [List.length_reverse]; exact hz, _, r.reverse, IsTup.new _ _⟩
end
end L2
namespace Sz
open PySem PySem.Spec PyProof.Rows L2
open Classical in
noncomputable def ownSem (fi : FnI) (x : D) : Option D := if h : ∃ d : D, ∀ μ : Sto, fi.sem [.val x] μ = some (.ok (.val d), μ) then some (choose h) else none
theorem ownSem_eq {fi : FnI} {x d : D} (h : ∀ μ : Sto, fi.sem [.val x] μ = some (.ok (.val d), μ)) : ownSem fi x = some d := by
  unfold ownSem
  have hx : ∃ d : D, ∀ μ : Sto, fi.sem [.val x] μ = some (.ok (.val d), μ) := ⟨d, h⟩
  rw [dif_pos hx]
  have h2 := Classical.choose_spec hx []
  rw [h []] at h2
  injection h2 with h2
  injection h2 with h2 _
  injection h2 with h2
  injection h2 with h2
  rw [h2]
theorem ownSem_some {fi : FnI} {x d : D} (h : ownSem fi x = some d) : ∀ μ : Sto, fi.sem [.val x] μ = some (.ok (.val d), μ) := by
  unfold ownSem at h
  split at h
  · rename_i hx
    cases h
    exact Classical.choose_spec hx
  · cases h
section
variable {g : G} {P : Program} {w : World} {mg : Str → Option Value} {base : Heap} {k : Nat} {N : List Str} {sc : Scope} {own cm gb gc : Bool} {X : Cx} {W : WX}
theorem own_run {fi : FnI} {f : Addr} {j : Nat} {sh : List (Nat × List Str)} (c : Ct g P w mg base k N sc own cm gb X W) (FC : FnC gc g P w mg base fi j f sh) (hsh : sh.contains (1, []) = true) (hps : fi.ps.length = 1) {A : Around} (room : Room j A) (gd : gc = true → A.guards = some [])
    {F : Hp} {as : List Addr} {μ : Sto} {H : Hp} {σ : L2.St} {pins : List (Addr × Obj)} {st : Shared} {x d : D} {a : Addr} (hs : ∀ ν : Sto, fi.sem [.val x] ν = some (.ok (.val d), ν)) (sr : SR g F as μ H) (rx : Rep g F x (.ref a)) (I : Inv X pins σ H st)
    (en : Env0 X.prog X.w X.K X.mg X.base A X.stack st H) :
    wpAny (model X.prog X.w) A (call (.ref f) [.ref a]) (fun v s' => ∃ F' as' w H', Ext F as F' as' ∧ SR g F' as' μ H' ∧ Rep g F' d w ∧ RelV w v ∧ Inv X pins σ H' s') X.xe st := by
  obtain ⟨fd, dvs, ok, bnd, rd⟩ := FC.ok
  obtain ⟨ds, rds, hb⟩ := (bnd (1, []) (List.contains_iff_mem.mp hsh)).to
  obtain ⟨b, e1, e2⟩ := hb st [.ref a] [] (c.hK ▸ I.kIn) rfl rfl
  have eb : b = [Value.ref a] := by
    match hp : fi.ps, hps with
    | [p], _ =>
      rw [hp] at e1
      exact (Option.some.inj e1).symm
  subst eb
  have en' : Env0 P w g.K mg base A X.stack st H := by
    have := en
    rw [c.hP, c.hw, c.hK, c.hmg, c.hb] at this
    exact this
  have ask : spOf g fi.ps.length fi.sem [V.ref a] H (fun w H' => ∃ F' as', Ext F as F' as' ∧ SR g F' as' μ H' ∧ Rep g F' d w) (fun _ _ _ => False) := by
    refine ⟨hps.symm, F, as, [.val x], μ, _, μ, sr, .cons rx .nil, hs μ, fun F' as' v H' e sr' ra => ?_⟩
    exact ⟨F', as', e, sr', ra⟩
  rw [c.hP, c.hw]
  refine wpAny_call (codeAny_mono (ok.go A X.stack st H ⟨[.ref a], []⟩ [.ref a] [.ref a] _ _ room gd en' e2 (.cons rfl .nil) ask) fun r s' told => ?_)
  cases r with
  | error e =>
    obtain ⟨_, _, _, _, _, _, _, _, _, _, _, _, z⟩ := told
    exact z.elim
  | ok fl =>
    cases fl with
    | ret u =>
      have told' : CE X.stack X.prog X.w H st (fun w H' => ∃ F' as', Ext F as F' as' ∧ SR g F' as' μ H' ∧ Rep g F' d w) u s' := by
        rw [c.hP, c.hw]
        exact told
      obtain ⟨v, H', I', rv, F', as', e, sr', ra⟩ := I.after told'
      exact ⟨F', as', v, H', e, sr', ra, rv, I'⟩
    | next => exact False.elim told
    | brk => exact False.elim told
    | cont => exact False.elim told
/-- an own method of one class each, by its name -/
structure SpC (gb : Bool) (g : G) (P : Program) (w : World) (mg : Str → Option Value) (base : Heap) (m : Str) (sm : Nat → Option FnI) (k : Nat) : Prop where
  ok : ∀ c fi, sm c = some fi → ∃ f, FnC gb g P w mg base fi k f [(1, [])] ∧ PySem.W.findIn g.K (.ref (g.cad c)) m = some (some (.ref f)) ∧ PySem.W.isFn g.K (.ref f) = true ∧ fi.ps.length = 1
/-- xs[::-1] -/
def revK (μ : Sto) : Option D → Option R
  | some (.lst ds) => some (.ok (.fr ds.reverse), μ)
  | some (.tup ds) => some (.ok (.val (.tup ds.reverse)), μ)
  | _ => none
def mRevL (a : ME) : ME := fun ρ μ => andThen (a ρ μ) fun s μ1 => revK μ1 (vw μ1 s)
theorem Reps.reverse {F : Hp} : ∀ {ds : List D} {vs : List V}, Reps g F ds vs → Reps g F ds.reverse vs.reverse
  | [], vs, h => by rw [Reps.nil_iff.mp h]; exact Reps.nil
  | d :: ds, vs, h => by
    obtain ⟨v, r, rfl, h1, h2⟩ := Reps.cons_iff.mp h
    rw [List.reverse_cons, List.reverse_cons]
    exact h2.reverse.append (Reps.cons h1 Reps.nil)
theorem se_revX {a : Expr} {ma : ME} {kk : Nat} {p1 p2 p3 pos : Pos} (hg : g.K = X.K) (ha : SE g X W a ma) : SE g X W (.Subscript a (.Slice none none (some (.UnaryOp .USub (.Constant (.int 1) kk p1) p2)) p3) pos) (mRevL ma) := by
  refine ⟨fun F as ρ μ σ H Q r μ' h sr er post => wE (pe_revX pe_wp) ?_⟩
  refine ha.then_ (show andThen _ _ = some (r, μ') from h) sr er (fun x e => by subst e; exact post) fun s μ1 F1 as1 v H1 h1 x1 sr1 er1 ra1 => ?_
  unfold revK at h1
  split at h1
  · rename_i ds hd
    cases h1
    obtain ⟨p, vs, rfl, hp, rv⟩ := vr_lst sr1 (view_ra sr1 ra1 hd)
    refine ⟨p, vs, rfl, .inl ⟨SqL.of hp, fun q hq => ?_⟩⟩
    obtain ⟨sr4, f4, n4⟩ := sr1.loose (o := .lst vs.reverse) hq
    exact post F1 as1 (.ref q) _ x1 sr4 (ra_lst upd_same f4 n4 rv.reverse)
  · rename_i ds hd
    cases h1
    obtain ⟨p, vs, rfl, hp, rv⟩ := vr_tup sr1 (view_ra sr1 ra1 hd)
    refine ⟨p, vs, rfl, .inr ⟨hg ▸ hp, fun q hq => ?_⟩⟩
    obtain ⟨sr4, x4, y4⟩ := sr1.frozen (o := .tup vs.reverse) hq
    refine post _ as1 (.ref q) _ (x1.trans x4) sr4 ?_
    show Rep g _ (.tup ds.reverse) _
    unfold Rep
    exact ⟨q, vs.reverse, rfl, SqT.of y4, (rv.reverse).mono x4.1⟩
  · cases h1
end
end Sz
namespace Sz
end Sz
set_option Elab.async false
set_option linter.all false
set_option maxRecDepth 100000
set_option maxHeartbeats 2000000
namespace Sz
open PySem PySem.Spec PyProof.Rows L2
end Sz
namespace Sz
open PySem PySem.Spec PyProof.Rows L2
end Sz
set_option Elab.async false
set_option linter.all false
set_option maxRecDepth 100000
set_option maxHeartbeats 4000000
namespace Sz
open PySem PySem.Spec L2
theorem cloop_filterL {α : Type} {t : MG} {c : MT} {el : ME} {ρ : En} {μ : Sto} (emb : α → D) (p : α → Bool) (f : α → D) : ∀ (l : List α) (acc : List D), acc.length + l.length ≤ 1000 → (∀ x ∈ l, ∀ ν : Sto, ∃ ρ', t (.val (emb x)) ρ ν = some (ρ', ν) ∧ c ρ' ν = some (.ok (p x), ν) ∧ (p x = true → el ρ' ν = some (.ok (.val (f x)), ν))) →
    cloop t c el ρ μ.length (l.map emb) (μ ++ [.lst acc]) = some (μ ++ [.lst (acc ++ (l.filter p).map f)])
  | [], acc, _, _ => by rw [List.filter_nil, List.map_nil, List.map_nil, List.append_nil]; rfl
  | d :: ds, acc, hl, h => by
    obtain ⟨ρ', h1, h2, h3⟩ := h d List.mem_cons_self (μ ++ [.lst acc])
    rw [List.length_cons] at hl
    rw [List.map_cons]
    unfold cloop
    rw [h1]
    dsimp only
    rw [h2]
    cases e : p d with
    | false =>
      dsimp only
      rw [cloop_filterL emb p f ds acc (by omega) (fun x hx => h x (List.mem_cons_of_mem _ hx)), List.filter_cons_of_neg (by rw [e]; exact Bool.false_ne_true)]
    | true =>
      dsimp only
      rw [h3 e]
      dsimp only
      rw [cput_end (by omega)]
      dsimp only
      rw [cloop_filterL emb p f ds (acc ++ [f d]) (by rw [List.length_append, List.length_singleton]; omega) (fun x hx => h x (List.mem_cons_of_mem _ hx)), List.append_assoc, List.filter_cons_of_pos e]
      rfl
/-- a comprehension over the images of a list's things -/
theorem comp_filterL {α : Type} {i : MI} {t : MG} {c : MT} {el : ME} {ow : List Nat} {ρ : En} {μ μ1 : Sto} {l : List α} (emb : α → D) (p : α → Bool) (f : α → D) (hi : i ρ μ = some (.ok (l.map emb), μ1)) (hl : l.length ≤ 1000)
    (h : ∀ x ∈ l, ∀ ν : Sto, ∃ ρ', t (.val (emb x)) (wipeE ρ ow) ν = some (ρ', ν) ∧ c ρ' ν = some (.ok (p x), ν) ∧ (p x = true → el ρ' ν = some (.ok (.val (f x)), ν))) :
    mComp i t c el ow ρ μ = some (.ok (.fr ((l.filter p).map f)), μ1) := by
  rw [mComp_ap, hi, andThen_ok, cloop_filterL emb p f l [] (by rw [List.length_nil]; omega) h, List.nil_append]
  unfold finC
  dsimp only
  rw [get_end]
  dsimp only
  rw [take_end]
theorem comp_mapL {α : Type} {i : MI} {t : MG} {el : ME} {ow : List Nat} {ρ : En} {μ μ1 : Sto} {l : List α} (emb : α → D) (f : α → D) (hi : i ρ μ = some (.ok (l.map emb), μ1)) (hl : l.length ≤ 1000)
    (h : ∀ x ∈ l, ∀ ν : Sto, ∃ ρ', t (.val (emb x)) (wipeE ρ ow) ν = some (ρ', ν) ∧ el ρ' ν = some (.ok (.val (f x)), ν)) :
    mComp i t tTrue el ow ρ μ = some (.ok (.fr (l.map f)), μ1) := by
  have e := comp_filterL (c := tTrue) emb (fun _ => true) f hi hl fun x hx ν => by
    obtain ⟨ρ', h1, h2⟩ := h x hx ν
    exact ⟨ρ', h1, rfl, fun _ => h2⟩
  rw [List.filter_eq_self.mpr (fun _ _ => rfl)] at e
  exact e
end Sz
set_option Elab.async false
set_option linter.all false
set_option maxRecDepth 100000
set_option maxHeartbeats 4000000
namespace Sz
open PySem PySem.Spec PyProof.Rows L2
/-- a list (false) or a tuple (true) -/
def SqK (k : Bool) (K : PySem.W.Frag) (H : Hp) (a : Addr) (xs : List V) : Prop := match k with
  | true => SqT K H a xs
  | false => SqL K H a xs
def AtIt (k : Bool) (h : Heap) (it l : Addr) (i : Nat) : Prop := match k with
  | true => h.IsTupleIter it l i
  | false => h.IsListIter it l i
def itO (k : Bool) (l : Addr) : Obj := match k with
  | true => { cls := .type "tuple_iterator", data := .fields #[.ref l, .int 0 0] }
  | false => { cls := .type "list_iterator", data := .fields #[.ref l, .int 0 0] }
theorem AtIt.obj {k : Bool} {h : Heap} {it l : Addr} {i : Nat} (x : AtIt k h it l i) : ∃ o, h.get? it = some o ∧ ∀ v, o.data ≠ .cell v := by
  cases k
  · obtain ⟨o, e, _, d⟩ := (show Heap.IsListIter _ _ _ _ from x)
    exact ⟨o, e, fun v q => by rw [d] at q; cases q⟩
  · obtain ⟨o, e, _, d⟩ := (show Heap.IsTupleIter _ _ _ _ from x)
    exact ⟨o, e, fun v q => by rw [d] at q; cases q⟩
theorem AtIt.new {k : Bool} {h : Heap} {it l : Addr} (e : h.get? it = some (itO k l)) : AtIt k h it l 0 := by
  cases k
  · exact ⟨_, e, rfl, rfl⟩
  · exact ⟨_, e, rfl, rfl⟩
section
variable {g : G} {X : Cx} {W : WX} {e : Expr} {m : ME} {F0 : Hp} {p pos : Pos}
theorem SqK.mono {k : Bool} {K : PySem.W.Frag} {F F' : Hp} {a : Addr} {xs : List V} (e : Same F F') (h : SqK k K F a xs) : SqK k K F' a xs := by
  cases k
  · exact e.seq (show SqL K F a xs from h)
  · exact seqT_mono e (show SqT K F a xs from h)
end
end Sz
set_option Elab.async false
set_option linter.all false
set_option maxRecDepth 100000
set_option maxHeartbeats 4000000
namespace Sz
open PySem PySem.Spec L2
theorem all_map2 {α : Type} {f : α → Bool} {l : List α} : bAll [.lst (l.map fun x => .bl (f x))] = some (.val (.bl (l.all f))) := by
  rw [all_map, List.all_map]
  rfl
end Sz
set_option Elab.async false
set_option linter.all false
set_option maxRecDepth 100000
set_option maxHeartbeats 4000000
namespace Sz
open PySem PySem.Spec PyProof.Rows L2
end Sz
set_option Elab.async false
set_option linter.all false
set_option maxRecDepth 100000
set_option maxHeartbeats 4000000
namespace Sz
open PySem PySem.Spec PyProof.Rows L2
def joinM : List ME → Str → En → Sto → Option R
  | [], acc, _, μ => some (.ok (.val (.str acc)), μ)
  | m :: ms, acc, ρ, μ => andThen (m ρ μ) fun s μ1 => match s with
    | .val (.str y) => if (acc ++ y).length ≤ sizeLine then joinM ms (acc ++ y) ρ μ1 else none
    | _ => none
def mJoin (ms : List ME) : ME := fun ρ μ => joinM ms Str.empty ρ μ
def fmtK (μ : Sto) : S → Option R
  | .val (.str y) => if y.length ≤ sizeLine then some (.ok (.val (.str y)), μ) else none
  | .val (.int i) => if i.natAbs.log2 < 1920 then some (.ok (.val (.str (toString i))), μ) else none
  | _ => none
def mFmt (m : ME) : ME := fun ρ μ => andThen (m ρ μ) fun s μ1 => fmtK μ1 s
section
variable {g : G} {X : Cx} {W : WX}
theorem postE_ext {F F1 : Hp} {as as1 : List Addr} {σ : L2.St} {Q : VK} {r : Except Ex S} {μ' : Sto} (x : Ext F as F1 as1) (h : PostE g W F as σ Q r μ') : PostE g W F1 as1 σ Q r μ' := by
  cases r with
  | error e => exact PErr.ext x h
  | ok s => exact fun F' as' w H' e sr ra => h F' as' w H' (x.trans e) sr ra
theorem se_fmt {e : Expr} {m : ME} {pos : Pos} (h : SE g X W e m) : SE g X W (.FormattedValue e (-1) none pos) (mFmt m) := by
  refine ⟨fun F as ρ μ σ H Q r μ' h1 sr er post => wE (pe_fmt pe_wp) ?_⟩
  refine h.then_ (show andThen _ _ = some (r, μ') from h1) sr er (fun x e => by subst e; exact post) fun s μ1 F1 as1 v H1 h2 x1 sr1 er1 ra1 => ?_
  unfold fmtK at h2
  split at h2
  · rename_i y
    split at h2
    · rename_i hz
      cases h2
      cases vr_str (view_ra sr1 ra1 (d := .str y) rfl)
      exact .inl ⟨y, rfl, hz, post F1 as1 _ H1 x1 sr1 ra_str⟩
    · cases h2
  · rename_i i
    split at h2
    · rename_i hz
      cases h2
      cases vr_int (view_ra sr1 ra1 (d := .int i) rfl)
      exact .inr ⟨i, rfl, hz, post F1 as1 _ H1 x1 sr1 ra_str⟩
    · cases h2
  · cases h2
inductive SJ (g : G) (X : Cx) (W : WX) : List Expr → List ME → Prop
  | nil : SJ g X W [] []
  | cons {e : Expr} {m : ME} {es : List Expr} {ms : List ME} : SE g X W e m → SJ g X W es ms → SJ g X W (e :: es) (m :: ms)
theorem sj_pj {es : List Expr} : PJ X es (es.map (wpE X)) := by
  induction es with
  | nil => exact .nil
  | cons e es ih => exact .cons pe_wp ih
theorem sj_run {es : List Expr} {ms : List ME} (h : SJ g X W es ms) : ∀ (acc : Str) (F : Hp) (as : List Addr) (ρ : En) (μ : Sto) (σ : L2.St) (H : Hp) (Q : VK) (r : Except Ex S) (μ' : Sto),
    joinM ms acc ρ μ = some (r, μ') → SR g F as μ H → ER g F as ρ σ → PostE g W F as σ Q r μ' → tJs (es.map (wpE X)) acc σ H fun out H1 => Q (.str out) H1 := by
  induction h with
  | nil =>
    intro acc F as ρ μ σ H Q r μ' e sr er post
    cases e
    exact post F as _ H .refl sr ra_str
  | cons he hes ih =>
    intro acc F as ρ μ σ H Q r μ' e sr er post
    refine he.then_ (show andThen _ _ = some (r, μ') from e) sr er (fun x e => by subst e; exact post) fun s μ1 F1 as1 v H1 h2 x1 sr1 er1 ra1 => ?_
    split at h2
    · rename_i y
      split at h2
      · rename_i hz
        cases vr_str (view_ra sr1 ra1 (d := .str y) rfl)
        exact ⟨y, rfl, hz, ih _ F1 as1 ρ μ1 σ H1 Q r μ' h2 sr1 er1 (postE_ext x1 post)⟩
      · cases h2
    · cases h2
theorem se_join {v1 v2 : Expr} {rest : List Expr} {ms : List ME} {pos : Pos} (h : SJ g X W (v1 :: v2 :: rest) ms) : SE g X W (.JoinedStr (v1 :: v2 :: rest) pos) (mJoin ms) :=
  ⟨fun F as ρ μ σ H Q r μ' h1 sr er post => wE (pe_joined sj_pj) (sj_run h _ F as ρ μ σ H Q r μ' h1 sr er post)⟩
end
section
variable {prog : Program} {w : World} {A : Around} {E : Value → Shared → Prop}
inductive ElJ (prog : Program) (w : World) (A : Around) (E : Value → Shared → Prop) (J : Shared → Prop) : List Value → List Str → Prop
  | nil : ElJ prog w A E J [] []
  | cons {x : Value} {t : Str} {l : List Value} {ts : List Str} : (∀ base, base + t.length ≤ sizeLine → ∀ s, J s → wpAny (model prog w) A (pyReprUnder base x) (fun u s' => u = t ∧ J s') E s) → ElJ prog w A E J l ts → ElJ prog w A E J (x :: l) (t :: ts)
theorem ElJ.length {J : Shared → Prop} {l : List Value} {ts : List Str} (h : ElJ prog w A E J l ts) : ts.length = l.length := by
  induction h with
  | nil => rfl
  | cons _ _ ih => simp [ih]
end
def strK : Option D → Option S
  | some (.str t) => some (.val (.str t))
  | _ => none
section
variable {g : G} {P : Program} {w : World} {mg : Str → Option Value} {base : Heap} {k : Nat} {N : List Str} {sc : Scope} {own cm gb gc : Bool} {X : Cx} {W : WX}
/-- the state between two things of a tuple that is shown -/
def JR (g : G) (X : Cx) (pins : List (Addr × Obj)) (σ : L2.St) (F : Hp) (as : List Addr) (μ : Sto) (s : Shared) : Prop := ∃ F' as' H', Ext F as F' as' ∧ SR g F' as' μ H' ∧ Inv X pins σ H' s
theorem JR.tok {pins : List (Addr × Obj)} {σ : L2.St} {F : Hp} {as : List Addr} {μ : Sto} {s : Shared} (h : JR g X pins σ F as μ s) (t : Tok) : JR g X pins σ F as μ { s with toks := t } := by
  obtain ⟨F', as', H', x, sr, I⟩ := h
  exact ⟨F', as', H', x, sr, I.tok _⟩
end
theorem joinM_str {m : ME} {ms : List ME} {acc y : Str} {ρ : En} {μ μ1 : Sto} (h : m ρ μ = some (.ok (.val (.str y)), μ1)) (hz : (acc ++ y).length ≤ sizeLine) : joinM (m :: ms) acc ρ μ = joinM ms (acc ++ y) ρ μ1 := by
  show (andThen (m ρ μ) fun s μ1 => _) = _
  rw [h, andThen_ok]
  exact if_pos hz
theorem fmt_int {m : ME} {i : Int} {ρ : En} {μ μ1 : Sto} (h : m ρ μ = some (.ok (.val (.int i)), μ1)) (hz : i.natAbs.log2 < 1920) : mFmt m ρ μ = some (.ok (.val (.str (toString i))), μ1) := by
  show (andThen (m ρ μ) fun s μ1 => _) = _
  rw [h, andThen_ok]
  exact if_pos hz
end Sz
set_option Elab.async false
set_option linter.all false
set_option maxRecDepth 100000
set_option maxHeartbeats 4000000
namespace Sz
open PySem PySem.Spec PyProof.Rows L2
end Sz
set_option Elab.async false
set_option linter.all false
set_option maxRecDepth 100000
set_option maxHeartbeats 4000000
namespace Sz
open PySem PySem.Spec PyProof.Rows L2
section
variable {prog : Program} {w : World} {A : Around} {E : Value → Shared → Prop} {s : Shared} {K : PySem.W.Frag} {x C f : Addr} {ox : Obj} {od : Option Obj}
open PySem.W PySem.Calls Builtin Builtin.Str in
theorem str_own {Q : Value → Shared → Prop} (hu : A.in1.in1.units < cLine) (X : K.In s.heap) (I : InstAt s.heap x ox C od) (hs : findIn K (.ref C) "__str__" = some (some (.ref f))) (hf : isFn K (.ref f) = true)
    (h : wpAny (model prog w) A.in1.in1 (call (.ref f) [.ref x]) (StrBack Q) E s) : wpAny (model prog w) A (call (.type "str") [.ref x]) Q E s := by
  refine callType_codes (T := "str") (Bi := Builtin.«object.__init__») (Q₁ := fun r s₁ => ∃ y u, r = .str y u ∧ Q r s₁) PySem.F.called_str (PySem.F.typeCall_str_1 _) PySem.F.entry_object_init ?_ ?_
  · refine codeAny_of_tree ?_
    show wpAny _ A.in1.in1 (do checkBuiltinCall "str.__new__" ⟨[.type "str", .ref x], []⟩; again (.builtin "str.__new__" ⟨[.type "str", .ref x], []⟩)) _ _ s
    refine wpAny_bind (wpAny_of_eq (PySem.F.newCall_str_1 _) (wpAny_pure ⟨plainId_quiet (by decide +kernel) _, codeAny_builtin PySem.F.entry_str_new ?_⟩))
    rw [Around.under_plainId (by decide +kernel) _]
    rw [str_new_tree]
    refine wpAny_bind (wpAny_pure ?_)
    refine wpAny_bind (wpAny_of_eq isSubtype_str_str ?_)
    have key : wpAny (model prog w) A.in1.in1 (PySem.Builtin.Str.strOf (.ref x)) (fun r s₁ => ∃ y u, r = .str y u ∧ Q r s₁) E s := by
      unfold PySem.Builtin.Str.strOf
      rw [show isExactStr (.ref x) = false from rfl]
      refine wpAny_bind (m := cRoomFor _ _) (wpAny_cRoomFor hu ?_)
      refine wpAny_bind (m := callSpecial? (.ref x) (Str.ofString "__str__")) (special_fn X I hs (beq_iff_eq.mp hf) (wpAny_mono h (fun r s' z => ?_) fun _ _ y => y))
      cases r <;> first | exact z.elim | exact wpAny_bind (wpAny_isInstance (T := "str") (b := true) rfl isSubtype_str_str (wpAny_pure ⟨_, _, rfl, z⟩)) | exact wpAny_pure ⟨_, _, rfl, z⟩
    exact wpAny_bind (wpAny_mono key (fun r s₁ hr => wpAny_pure hr) fun _ _ y => y)
  · rintro obj s₁ ⟨y, u, rfl, hq⟩
    exact ⟨typeIs_str _ _ _, PySem.F.args_object_init_2 _ _, object_init_meets PySem.F.called_str.init.lookup PySem.F.called_str.made (by decide) prog w A.in1 _ s₁ ⟨typeIs_str _ _ _, rfl, hq⟩⟩
end
/-- str(x): own objects by sm -/
noncomputable def bStrO (sm : Nat → Option FnI) : List D → Option S
  | [.obj c fs] => (match sm c with
    | some fi => strK (ownSem fi (.obj c fs))
    | none => none)
  | xs => bStr xs
section
variable {g : G} {P : Program} {w : World} {mg : Str → Option Value} {base : Heap} {k : Nat} {N : List Str} {sc : Scope} {own cm gb gc : Bool} {X : Cx} {W : WX}
theorem Ct.strO {sm : Nat → Option FnI} {i : Nat} (c : Ct g P w mg base k N sc own true gb X W) (E : SpC gc g P w mg base "__str__" sm i) (hgd : leB gc gb = true) (hi : Nat.ble (i + 2) k = true) : CallOk g X (.type "str") (bStrO sm) := by
  intro xs s F as μ H vs Q e sr hx kk
  unfold bStrO at e
  split at e
  · rename_i ci fs
    split at e
    · rename_i fi hfi
      obtain ⟨v, rfl, hv⟩ := vrs1 hx
      unfold strK at e
      split at e
      · rename_i t ho
        cases e
        have hs := ownSem_some ho
        obtain ⟨f, FC, hfind, hfn, hps⟩ := E.ok ci fi hfi
        obtain ⟨a, dx, us, rfl, ha, _, _⟩ := vr_obj sr hv
        have rx : Rep g F (.obj ci fs) (.ref a) := by
          rcases hv with ⟨_, _, _, q, _⟩ | hv
          · cases q
          · exact hv
        intro pins st σ vs' I rv
        obtain ⟨u, rfl, ru⟩ := rv.one
        cases (show u = Value.ref a from ru)
        obtain ⟨mA, J, _⟩ := ins_get I.hok ha
        obtain ⟨od, J, _⟩ := J.look
        have hr := (c.room rfl).mono (Nat.le_of_ble_eq_true hi)
        have hr2 := Room.in1 (Room.in1 (k := i + 1) hr)
        refine str_own (by have := hr2.un; omega) I.kIn J (c.hK ▸ hfind) (c.hK ▸ hfn) ?_
        refine wpAny_mono (own_run c FC rfl hps hr2 (fun e => c.gd (leB_ok hgd e)) hs sr rx I I.env0.in1.in1) (fun v s' told => ?_) fun _ _ z => z
        obtain ⟨F', as', w', H', x', sr', rw', rel, I'⟩ := told
        unfold Rep at rw'
        subst rw'
        obtain ⟨tt, rfl⟩ := (show ∃ tt, v = Value.str t tt from rel)
        exact ⟨.str t, H', I', ⟨_, rfl⟩, kk F' as' _ H' x' sr' ra_str⟩
      · cases e
    · cases e
  · exact co_str xs s F as μ H vs Q e sr hx kk
end
theorem str_obj {sm : Nat → Option FnI} {c : Nat} {fs : List D} {fi : FnI} {t : Str} (h1 : sm c = some fi) (h2 : ∀ μ : Sto, fi.sem [.val (.obj c fs)] μ = some (.ok (.val (.str t)), μ)) : bStrO sm [.obj c fs] = some (.val (.str t)) := by
  show (match sm c with
    | some fi => strK (ownSem fi (.obj c fs))
    | none => none) = _
  rw [h1]
  show strK (ownSem fi (.obj c fs)) = _
  rw [ownSem_eq h2]
  rfl
/-- divmod(i, j), j above nought -/
def bDivmod : List D → Option S
  | [.int i, .int j] => if 0 < j ∧ j.natAbs.log2 < 9000 then some (.val (.tup [.int (i.fdiv j), .int (i.fmod j)])) else none
  | _ => none
theorem co_divmod {g : G} {X : Cx} : CallOk g X (.builtin "divmod") bDivmod := by
  intro xs s F as μ H vs Q e sr hx k
  unfold bDivmod at e
  split at e
  · rename_i i j
    split at e
    · rename_i hz
      cases e
      obtain ⟨v, u, rfl, h, h'⟩ := vrs2 hx
      cases vr_int h
      cases vr_int h'
      refine cc call_divmodW ⟨i, j, rfl, ⟨hz.1, PyProof.noPylong_of_log2 hz.2⟩, fun q hq => ?_⟩
      rw [← Int.fdiv_eq_ediv_of_nonneg i (by omega), ← Int.fmod_eq_emod_of_nonneg i (by omega)]
      obtain ⟨sr4, x4, e4⟩ := sr.frozen (o := .tup [V.int (i.fdiv j), V.int (i.fmod j)]) hq
      refine k _ as (.ref q) _ x4 sr4 (show Rep g _ (.tup [.int (i.fdiv j), .int (i.fmod j)]) (.ref q) from ?_)
      unfold Rep
      exact ⟨q, _, rfl, SqT.of e4, ints_rep (ns := [i.fdiv j, i.fmod j])⟩
    · cases e
  · cases e
theorem divmod_ii {i j : Int} (n : Nat) (h0 : 0 < j) (h : Bd n j) (hn : n ≤ 9000 := by decide) : bDivmod [.int i, .int j] = some (.val (.tup [.int (i.fdiv j), .int (i.fmod j)])) := by
  have e := fdiv_ii (i := i) n (show j ≠ 0 by omega) h hn
  unfold dFdiv at e
  dsimp only at e
  show (if 0 < j ∧ j.natAbs.log2 < 9000 then _ else _) = _
  split at e
  · rename_i hz
    exact if_pos ⟨h0, hz.2⟩
  · cases e
end Sz
set_option Elab.async false
set_option linter.all false
set_option maxRecDepth 100000
set_option maxHeartbeats 4000000
namespace Sz
open PySem PySem.Spec PyProof.Rows L2
end Sz
set_option Elab.async false
set_option linter.all false
set_option maxRecDepth 100000
set_option maxHeartbeats 4000000
namespace Sz
open PySem PySem.Spec PyProof.Rows L2
section
variable {g : G} {P : Program} {w : World} {mg : Str → Option Value} {base : Heap} {k : Nat} {N : List Str} {sc : Scope} {own cm gb gc : Bool} {X : Cx} {W : WX}
theorem vr_rep {F H : Hp} {d : D} {v : V} (hd : ∀ ds, d ≠ .lst ds) (h : VR g F H d v) : Rep g F d v := by
  rcases h with ⟨ds, _, _, q, _⟩ | h
  · exact (hd ds q).elim
  · exact h
end
end Sz
set_option Elab.async false
set_option linter.all false
set_option maxRecDepth 100000
set_option maxHeartbeats 4000000
namespace Sz
open PySem PySem.Spec PyProof.Rows L2
def sm1K (op : D → D → Option S) (b : ME) (ρ : En) (μ : Sto) : S → Option R
  | .val (.str z) => andThen (b ρ μ) fun s2 μ2 => fin2 op μ2 (.val (.str z)) s2
  | _ => none
/-- x.f(y) of a text x -/
def mSm1 (op : D → D → Option S) (a b : ME) : ME := fun ρ μ => andThen (a ρ μ) fun s1 μ1 => sm1K op b ρ μ1 s1
/-- the rule r holds for what the code says -/
def SmOk (g : G) (X : Cx) (r : V → List V → Hp → VK → Prop) (op : D → D → Option S) : Prop :=
  ∀ (z : Str) (y : D) (s : S) (F : Hp) (as : List Addr) (μ : Sto) (H : Hp) (u : V) (Q : VK), op (.str z) y = some s → SR g F as μ H → VR g F H y u →
    (∀ F' as' w H', Ext F as F' as' → SR g F' as' μ H' → RA g F' as' H' s w → Q w H') → r (.str z) [u] H Q
section
variable {g : G} {X : Cx} {W : WX} {a b : Expr} {ma mb : ME} {dop : D → D → Option S} {pos apos : Pos}
theorem se_sm1 {id : String} {name : Str} {r : V → List V → Hp → VK → Prop} (slot : Slot "str" name id) (ty : typeOf (.builtin id) = pure (.type "method_descriptor")) (rule : MtR X id r) (ok : SmOk g X r dop) (ha : SE g X W a ma) (hb : SE g X W b mb)
    (hs : starEach [b] X.env = [(false, eval b X.env)] := by rfl) (hbase : attributeBase a name X.env (eval a X.env) = eval a X.env := by rfl) (hline : (apos.endLine == pos.line) = true := by rfl) :
    SE g X W (.Call (.Attribute a name apos) [b] [] pos) (mSm1 dop ma mb) := by
  refine ⟨fun F as ρ μ σ H Q r' μ' h sr er post => wE (pe_m1 slot ty rule pe_wp pe_wp hs hbase hline) ?_⟩
  refine ha.then_ (show andThen _ _ = some (r', μ') from h) sr er (fun x e => by subst e; exact post) fun s1 μ1 F1 as1 v1 H1 h1 x1 sr1 er1 ra1 => ?_
  unfold sm1K at h1
  split at h1
  · rename_i z
    have e1 : Rep g F1 (.str z) v1 := ra1
    unfold Rep at e1
    subst e1
    refine ⟨⟨z, rfl⟩, ?_⟩
    refine hb.then_ h1 sr1 er1 (fun x e => by subst e; exact PErr.ext x1 post) fun s2 μ2 F2 as2 v2 H2 h2 x2 sr2 er2 ra2 => ?_
    obtain ⟨x, y, s, e1, e2, e3, e4, e5⟩ := fin2_some h2
    subst e4 e5
    cases e1
    exact ok z y s F2 as2 μ' H2 v2 Q e3 sr2 (view_ra sr2 ra2 e2) fun F' as' w H' e' r' q => post F' as' w H' (x1.trans (x2.trans e')) r' q
  · cases h1
def strs? : List D → Option (List Str)
  | [] => some []
  | .str z :: ds => (match strs? ds with
    | some zs => some (z :: zs)
    | none => none)
  | _ :: _ => none
theorem strsD_rep {F : Hp} : ∀ {ds : List D} {zs : List Str} {vs : List V}, strs? ds = some zs → Reps g F ds vs → vs = zs.map V.str
  | [], zs, vs, h, r => by
    cases h
    exact Reps.nil_iff.mp r
  | .str z :: ds, zs, vs, h, r => by
    unfold strs? at h
    split at h
    · rename_i zs' hz
      cases h
      obtain ⟨v, r', rfl, h2, h3⟩ := Reps.cons_iff.mp r
      unfold Rep at h2
      rw [h2, strsD_rep hz h3]
      rfl
    · cases h
  | .non :: _, _, _, h, _ => by cases h
  | .bl _ :: _, _, _, h, _ => by cases h
  | .int _ :: _, _, _, h, _ => by cases h
  | .ty _ :: _, _, _, h, _ => by cases h
  | .tup _ :: _, _, _, h, _ => by cases h
  | .lst _ :: _, _, _, h, _ => by cases h
  | .obj _ _ :: _, _, _, h, _ => by cases h
  | .fn _ :: _, _, _, h, _ => by cases h
  | .cls _ :: _, _, _, h, _ => by cases h
  | .scr _ :: _, _, _, h, _ => by cases h
  | .dic _ _ :: _, _, _, h, _ => by cases h
  | .exc _ _ :: _, _, _, h, _ => by cases h
theorem strs_map : ∀ {zs : List Str}, strs? (zs.map D.str) = some zs
  | [] => rfl
  | z :: zs => by
    rw [List.map_cons]
    unfold strs?
    rw [strs_map]
def joinK (a : Str) (ys : List Str) : Option S := if (ys.map (·.length)).sum + ys.length * a.length ≤ 16777216 then some (.val (.str (Txt.join a ys))) else none
def dJoin : D → D → Option S
  | .str a, .lst ds => (match strs? ds with
    | some ys => joinK a ys
    | none => none)
  | .str a, .tup ds => (match strs? ds with
    | some ys => joinK a ys
    | none => none)
  | _, _ => none
theorem sm_join (hK : g.K = X.K) : SmOk g X (fun x xs H Q => ∃ a p, ∃ ys : List Str, x = .str a ∧ xs = [.ref p] ∧ (SqL X.K H p (ys.map V.str) ∨ SqT X.K H p (ys.map V.str)) ∧
    (ys.map (·.length)).sum + ys.length * a.length ≤ 16777216 ∧ Q (.str (Txt.join a ys)) H) dJoin := by
  intro z y s F as μ H u Q e sr hy k
  unfold dJoin at e
  split at e
  · rename_i a ds h1
    cases h1
    split at e
    · rename_i ys hys
      unfold joinK at e
      split at e
      · rename_i hz
        cases e
        obtain ⟨p, vs, rfl, q1, r1⟩ := vr_lst sr hy
        have e1 := strsD_rep hys r1
        subst e1
        exact ⟨_, p, ys, rfl, rfl, .inl (SqL.of q1), hz, k F as _ H .refl sr (show Rep g F (.str _) _ by unfold Rep; rfl)⟩
      · cases e
    · cases e
  · rename_i a ds h1
    cases h1
    split at e
    · rename_i ys hys
      unfold joinK at e
      split at e
      · rename_i hz
        cases e
        obtain ⟨p, vs, rfl, q1, r1⟩ := vr_tup sr hy
        have e1 := strsD_rep hys r1
        subst e1
        exact ⟨_, p, ys, rfl, rfl, .inr (hK ▸ q1), hz, k F as _ H .refl sr (show Rep g F (.str _) _ by unfold Rep; rfl)⟩
      · cases e
    · cases e
  · cases e
def dSplit : D → D → Option S
  | .str a, .str b => if (b.length == 0) = false ∧ a.length + 2 ≤ sizeLine then some (.fr ((Txt.split a b).map D.str)) else none
  | _, _ => none
theorem reps_strs {F : Hp} : ∀ {zs : List Str}, Reps g F (zs.map D.str) (zs.map V.str)
  | [] => Reps.nil
  | z :: zs => by
    rw [List.map_cons, List.map_cons]
    exact Reps.cons (by unfold Rep; rfl) reps_strs
theorem sm_split : SmOk g X (fun x xs H Q => ∃ a b, x = .str a ∧ xs = [.str b] ∧ (b.length == 0) = false ∧ a.length + 2 ≤ sizeLine ∧ rNewStrs (Txt.split a b) H Q) dSplit := by
  intro z y s F as μ H u Q e sr hy k
  unfold dSplit at e
  split at e
  · rename_i a b h1
    cases h1
    split at e
    · rename_i hz
      cases e
      cases vr_str hy
      refine ⟨_, b, rfl, rfl, hz.1, hz.2, fun p hp => ?_⟩
      obtain ⟨sr4, f4, n4⟩ := sr.loose (o := .lst ((Txt.split z b).map V.str)) hp
      exact k F as (.ref p) _ .refl sr4 (ra_lst upd_same f4 n4 reps_strs)
    · cases e
  · cases e
def dPart : D → D → Option S
  | .str a, .str b => if (b.length == 0) = false ∧ a.length ≤ sizeLine then some (.val (.tup [.str (Txt.partition a b).1, .str (Txt.partition a b).2.1, .str (Txt.partition a b).2.2])) else none
  | _, _ => none
theorem sm_part : SmOk g X (fun x xs H Q => ∃ a b, x = .str a ∧ xs = [.str b] ∧ (b.length == 0) = false ∧ a.length ≤ sizeLine ∧
      ∀ p, H p = none → Q (.ref p) (upd H p (.tup [.str (Txt.partition a b).1, .str (Txt.partition a b).2.1, .str (Txt.partition a b).2.2]))) dPart := by
  intro z y s F as μ H u Q e sr hy k
  unfold dPart at e
  split at e
  · rename_i a b h1
    cases h1
    split at e
    · rename_i hz
      cases e
      cases vr_str hy
      refine ⟨_, b, rfl, rfl, hz.1, hz.2, fun p hp => ?_⟩
      obtain ⟨sr4, x4, e4⟩ := sr.frozen (o := .tup [.str (Txt.partition z b).1, .str (Txt.partition z b).2.1, .str (Txt.partition z b).2.2]) hp
      refine k _ as (.ref p) _ x4 sr4 (show Rep g _ (.tup _) (.ref p) from ?_)
      unfold Rep
      exact ⟨p, _, rfl, SqT.of e4, Reps.cons (by unfold Rep; rfl) (Reps.cons (by unfold Rep; rfl) (Reps.cons (by unfold Rep; rfl) Reps.nil))⟩
    · cases e
  · cases e
end
theorem mSm1_ap {op : D → D → Option S} {a b : ME} {ρ : En} {μ : Sto} : mSm1 op a b ρ μ = andThen (a ρ μ) fun s1 μ1 => sm1K op b ρ μ1 s1 := rfl
theorem sm1K_str {op : D → D → Option S} {b : ME} {ρ : En} {μ : Sto} {z : Str} : sm1K op b ρ μ (.val (.str z)) = andThen (b ρ μ) fun s2 μ2 => fin2 op μ2 (.val (.str z)) s2 := Eq.trans rfl rfl
theorem join_some {a : Str} {ys : List Str} (h : (ys.map (·.length)).sum + ys.length * a.length ≤ 16777216) : dJoin (.str a) (.lst (ys.map D.str)) = some (.val (.str (Txt.join a ys))) := by
  show (match strs? (ys.map D.str) with
    | some ys => joinK a ys
    | none => none) = _
  rw [strs_map]
  exact if_pos h
end Sz
set_option Elab.async false
set_option linter.all false
set_option maxRecDepth 100000
set_option maxHeartbeats 4000000
namespace Sz
open PySem PySem.Spec PyProof.Rows L2
end Sz
set_option Elab.async false
set_option linter.all false
set_option maxRecDepth 100000
set_option maxHeartbeats 4000000
namespace Sz
open PySem PySem.Spec L2
end Sz
set_option Elab.async false
set_option linter.all false
set_option maxRecDepth 100000
set_option maxHeartbeats 4000000
namespace Sz
open PySem PySem.Spec PyProof.Rows L2
end Sz
set_option Elab.async false
set_option linter.all false
set_option maxRecDepth 100000
set_option maxHeartbeats 4000000
namespace Sz
open PySem PySem.Spec L2
end Sz
set_option Elab.async false
set_option linter.all false
set_option maxRecDepth 100000
set_option maxHeartbeats 4000000
namespace Sz
open PySem PySem.Spec PyProof.Rows L2
/-- an exception that is told no more: the object as it stands -/
def exO (a : Addr) (oe : Obj) : HO := .ext fun h => h.get? a = some oe
section
variable {X : Cx} {pins : List (Addr × Obj)} {σ : L2.St} {H : Hp} {s : Shared}
theorem inv_track {a : Addr} {oe : Obj} {vs : Array Value} (I : Inv X pins σ H s) (h0 : X.s_0.heap.get? a = none) (he : s.heap.get? a = some oe) (hd : oe.data = .fields vs) (na : H a = none) (nL : a ≠ X.env.locals) (np : ∀ p ∈ X.pn ++ pins, p.1 ≠ a) : Inv X pins σ (upd H a (exO a oe)) s := by
  refine ⟨I.ok, I.os, I.bare, ⟨I.base.keep, I.base.slot, fun b o e n hx => ?_, I.base.there, fun b xs e => ?_, fun b o u e => ?_, fun b ps e => ?_⟩, I.loc, I.cell, ?_, fun x c e => ?_, fun p hp => ?_, fun b u e => ?_, I.len⟩
  · rw [upd_ne (fun z => by rw [z, h0] at e; cases e)]
    exact I.base.free b o e n hx
  · have q := I.base.tups b xs e
    rw [upd_ne (ne_of_none q na)]
    exact q
  · have q := I.base.frzs b o u e
    rw [upd_ne (ne_of_none q na)]
    exact q
  · obtain ⟨more, q⟩ := I.base.tbls b ps e
    exact ⟨more, by rw [upd_ne (ne_of_none q na)]; exact q⟩
  · rw [upd_ne (Ne.symm nL)]
    exact I.free
  · obtain ⟨v, z⟩ := I.cell x c e
    have nc : c ≠ a := fun q => by
      subst q
      obtain ⟨o, e1, e2⟩ := z
      rw [he] at e1
      cases e1
      rw [hd] at e2
      cases e2
    rw [upd_ne nc]
    exact I.freeC x c e
  · obtain ⟨e, n, ne, nf, d⟩ := I.pin p hp
    refine ⟨e, ?_, ne, nf, d⟩
    rw [upd_ne (np p hp)]
    exact n
  · by_cases hb : b = a
    · subst hb
      rw [upd_same] at e
      cases e
      exact ⟨he, ⟨oe, he⟩, fun h1 h2 p k => k oe p⟩
    · rw [upd_ne hb] at e
      exact (I.hok b u e).stay (fun _ _ _ q => q) (fun c q => by rw [upd_ne (ne_of_none q na)]; exact q) fun c xs q => by rw [upd_ne (ne_of_none q na)]; exact q
theorem inv_suiteT (I : Inv X pins σ H s) (a : Addr) : Inv (X.suite a (X.pn ++ pins)) [] σ H s :=
  ⟨I.ok.suite _ _, I.os, I.bare, I.base, I.loc, I.cell, I.free, I.freeC, fun p hp => I.pin p (by rw [List.append_nil] at hp; exact hp), I.hok, I.len⟩
theorem inv_unsuiteT {a : Addr} {pn' : List (Addr × Obj)} (I : Inv (X.suite a (X.pn ++ pins)) pn' σ H s) (ok : X.Ok) : Inv X pins σ H s :=
  ⟨ok, I.os, I.bare, I.base, I.loc, I.cell, I.free, I.freeC, fun p hp => I.pin p (List.mem_append_left _ hp), I.hok, I.len⟩
end
/-- a clause: its class, its name's slot, what its suite wishes -/
structure Cl where
  c : Value
  i : Option Nat
  ts : Addr → TS
def setO (σ : L2.St) : Option Nat → Option V → L2.St
  | none, _ => σ
  | some i, v => σ.set i v
/-- what the clauses wish of an exception of the body -/
def wCls (K : PySem.W.Frag) (Wout : WX) (D : Ends) : List Cl → WX
  | [] => Wout
  | l :: ls => fun cls d σ H => ∃ b, PySem.W.exmOne K cls l.c = some b ∧
      (b = true → ∀ a oe, H a = none → oe.cls = cls → oe.dict = d → (∃ vs, oe.data = .fields vs) →
        l.ts a { nx := fun σ' H' => D.nx (setO σ' l.i none) H', rt := D.rt, bk := fun σ' H' => D.bk (setO σ' l.i none) H', ct := fun σ' H' => D.ct (setO σ' l.i none) H' } (setO σ l.i (some (.ref a))) (upd H a (exO a oe))) ∧
      (b = false → wCls K Wout D ls cls d σ H)
inductive ClsOk (X : Cx) : List ExceptHandler → List Cl → Prop
  | nil : ClsOk X [] []
  | anon {x : Str} {c : Value} {ts : Addr → TS} {b₀ : Stmt} {suite : List Stmt} {np pos' : Pos} {hds : List ExceptHandler} {l : List Cl} (hc : Names X x c)
      (hsu : ∀ (a : Addr) (pn : List (Addr × Obj)), PSs (X.suite a pn) (b₀ :: suite) (ts a)) (r : ClsOk X hds l) :
      ClsOk X (.ExceptHandler (some (.Name x np)) none (b₀ :: suite) pos' :: hds) (⟨c, none, ts⟩ :: l)
  | name {x n : Str} {c : Value} {i : Nat} {ts : Addr → TS} {b₀ : Stmt} {suite : List Stmt} {np pos' : Pos} {hds : List ExceptHandler} {l : List Cl} (hc : Names X x c) (hi : X.N[i]? = some n) (hln : X.env.kindOf n = some .local)
      (hsu : ∀ (a : Addr) (pn : List (Addr × Obj)), PSs (X.suite a pn) (b₀ :: suite) (ts a)) (r : ClsOk X hds l) :
      ClsOk X (.ExceptHandler (some (.Name x np)) (some n) (b₀ :: suite) pos' :: hds) (⟨c, some i, ts⟩ :: l)
section
variable {X : Cx} {body : List Stmt} {h₀ : ExceptHandler} {hds : List ExceptHandler} {l : List Cl} {pos : Pos} {tb : WX → TS} {Wout : WX}
theorem ps_tryT (hs : X.stack = X.env :: X.outer) (hf : X.env.frame = some X.env.locals) (hN : X.N.Nodup) (hex : X.ex = []) (tk : Takes X Wout)
    (hb : ∀ (W : WX) (pn : List (Addr × Obj)) (xe : Value → Shared → Prop), Takes (X.tr pn xe) W → PassesOwn (model X.prog X.w) X.A X.env xe → PSs (X.tr pn xe) body (tb W))
    (hh : ClsOk X (h₀ :: hds) l) : PS X (.Try body (h₀ :: hds) [] [] pos) (fun D σ H => tb (wCls X.K Wout D l) D σ H) := by
  refine ⟨fun pins s σ H D I h => ?_⟩
  have ok := I.ok
  have hfr : X.A.frames = some (X.env :: X.outer) := by rw [ok.frames, hs]
  refine wpAny_Try_except ?_
  refine wpAny_mono ((hb (wCls X.K Wout D l) (X.pn ++ pins) (fun e s₁ => wpAny (model X.prog X.w) X.A (noteFrame e X.env) (fun _ s₂ => wpAny (model X.prog X.w) X.A (setFlight e none) (fun _ s₃ =>
    wpAny (model X.prog X.w) X.A (handleBy e X.env (h₀ :: hds)) (SP X pins D) X.xe s₃) X.xe s₂) X.xe s₁) (fun u s' xx => ?_) PassesOwn.looking).run [] s σ H D (I.toTry _) h) (fun f s1 hsp => ?_) (fun e s1 he => he)
  · -- the catch
    obtain ⟨a, B, sI, pins', σ', H', cls, d, rfl, J', nb, up, sky, na, os, ag, w⟩ := xx
    have J : Inv X pins σ' H' sI := J'.ofTry ok
    have sky' : Sky B (X.env :: X.outer) a (Zc cls d) X.env.locals s'.heap := by rw [← hs]; exact sky
    show wpAny (model X.prog X.w) X.A (noteFrame (.ref a) X.env) _ _ _
    refine Sky.land Zc.steady hfr hf sky' fun h3 fl3 up3 => ?_
    have J3 : Inv X pins σ' H' { s' with heap := h3 } := J.landed nb fl3.1 (up.trans up3) os ag
    obtain ⟨oe3, vs3, he3, hz3, hd3⟩ := fl3.there
    have notFr : ∀ {h : Heap} {o : Obj} {vs : Array Value}, h.FunFrames B (X.env :: X.outer) → h.get? a = some o → o.data = .fields vs → a ∉ frs (X.env :: X.outer) := fun {h o vs} ff e dd hm => by
      obtain ⟨_, o', e', hnf⟩ := ff.mem hm
      rw [e] at e'; cases e'
      exact hnf _ dd
    have nfr := notFr fl3.2.2.1 he3 hd3
    have nL : a ≠ X.env.locals := fun z => nfr (List.mem_filterMap.mpr ⟨X.env, List.mem_cons_self, by rw [hf, z]⟩)
    have nF : a ∉ X.fs := fun hm => by
      obtain ⟨e, he, q⟩ := List.mem_filterMap.mp hm
      exact nfr (List.mem_filterMap.mpr ⟨e, List.mem_cons_of_mem _ he, q⟩)
    have nI : sI.heap.get? a = none := by
      cases q : sI.heap.get? a with
      | none => rfl
      | some o =>
        have := nb a o q (by rw [hs]; exact nfr)
        rw [fl3.2.1] at this
        cases this
    have n0 : X.s_0.heap.get? a = none := by
      cases q : X.s_0.heap.get? a with
      | none => rfl
      | some o =>
        obtain ⟨o', e⟩ := J.base.there a o q (by rw [hex]; exact fun z => nomatch z)
        rw [nI] at e
        cases e
    have np : ∀ p ∈ X.pn ++ pins, p.1 ≠ a := fun p hp z => by
      have e := (J.pin p hp).1
      rw [z, nI] at e
      cases e
    have S3 := J3.suite he3 hd3 na nL nF
    have LT : PySem.W.Looks (model X.prog X.w) h3 (typeOf (.ref a)) cls := fun A Q E s k q => wpAny_typeOf_ref (k _ _ he3) (by rw [hz3.1]; exact q)
    have test : ∀ {x : Str} {np : Pos} {c : Value} {Q : Value → Shared → Prop} {E : Value → Shared → Prop}, Names X x c → Q c { s' with heap := h3 } → wpAny (model X.prog X.w) (X.A.mark (some (.ref a))) (eval (.Name x np) X.env) Q E { s' with heap := h3 } := fun {x np c Q E} hc q => by
      obtain ⟨hg, hdbg, hm | ⟨hm, hv, hnn⟩⟩ := hc
      · exact ld_glob (X := X.suite a ((a, oe3) :: (X.pn ++ pins))) S3 hg hm q hdbg
      · exact ld_blt (X := X.suite a ((a, oe3) :: (X.pn ++ pins))) S3 hg hm hv q hnn hdbg
    have go : ∀ {hds' : List ExceptHandler} {l' : List Cl}, ClsOk X hds' l' → wCls X.K Wout D l' cls d σ' H' →
        wpAny (model X.prog X.w) X.A (handleBy (.ref a) X.env hds') (SP X pins D) X.xe { s' with heap := h3 } := by
      intro hds' l' hk
      induction hk with
      | nil =>
        intro w
        refine wpAny_handleBy_nil ?_
        obtain ⟨k1, k2, k3, oe, vs, T, oT, ts', he, hz, hd, h1, hr⟩ := id fl3
        unfold PySem.passOn
        refine wpAny_bind (wpAny_field he hd h1 ?_)
        rw [if_neg (show ¬ ((Value.ref T == Value.none) = true) from by simp)]
        have fin : wpAny (model X.prog X.w) X.A (setFlight (.ref a) X.env.frame) (fun _ s4 => wpAny (model X.prog X.w) X.A (throw (.ref a) : Sem Flow) (SP X pins D) X.xe s4) X.xe { s' with heap := h3 } := by
          rw [hf]
          refine HandSPX.setFlight_upZ fl3 fun h4 hh4 up4 => wpAny_throw (tk _ _ ?_)
          exact ⟨a, B, sI, pins, σ', H', cls, d, rfl, J, nb, (up.trans up3).trans up4, .inr (.inr (by rw [hs]; exact hh4)), na, os, ag, w⟩
        first
          | exact wpAny_bind (wpAny_pure (wpAny_bind fin))
          | exact wpAny_bind fin
      | @anon x c ts b₀ suite np' pos' hds2 l2 hc hsu r ih =>
        intro w
        obtain ⟨b, hb1, hyes, hno⟩ := w
        refine wpAny_handleBy_cons (codeAny_handlers_test ?_) (by intro q; cases q)
        refine test hc ((PySem.W.exm_one (M := model X.prog X.w) (J3.kIn) LT hb1).here ?_)
        cases b with
        | true =>
          refine codeAny_handlers_suite ?_
          refine HandSPX.lands_againZ fl3 fun h4 fl4 up4 => ?_
          have J4 : Inv X pins σ' H' { s' with heap := h4 } := J.landed nb fl4.1 ((up.trans up3).trans up4) os ag
          obtain ⟨oe4, vs4, he4, hz4, hd4⟩ := fl4.there
          have S4 := inv_suiteT (inv_track J4 n0 he4 hd4 na nL np) a
          refine wpAny_mono ((hsu a (X.pn ++ pins)).run [] _ _ _ _ S4 (hyes rfl a oe4 na hz4.1 hz4.2 ⟨_, hd4⟩)) (fun f s6 hsp => ?_) (fun _ _ z => False.elim z)
          cases f with
          | next =>
            obtain ⟨σ6, H6, S6, q6⟩ := hsp
            exact ⟨_, _, inv_unsuiteT S6 ok, q6⟩
          | brk =>
            obtain ⟨σ6, H6, S6, q6⟩ := hsp
            exact ⟨_, _, inv_unsuiteT S6 ok, q6⟩
          | cont =>
            obtain ⟨σ6, H6, S6, q6⟩ := hsp
            exact ⟨_, _, inv_unsuiteT S6 ok, q6⟩
          | ret u =>
            obtain ⟨v6, σ6, H6, S6, r6, q6⟩ := hsp
            exact ⟨_, _, _, inv_unsuiteT S6 ok, r6, q6⟩
        | false =>
          show wpAny _ X.A (handleBy (.ref a) X.env hds2) _ _ _
          exact ih (hno rfl)
      | @name x n c i ts b₀ suite np' pos' hds2 l2 hc hi hln hsu r ih =>
        intro w
        obtain ⟨b, hb1, hyes, hno⟩ := w
        refine wpAny_handleBy_cons (codeAny_handlers_test ?_) (by intro q; cases q)
        refine test hc ((PySem.W.exm_one (M := model X.prog X.w) (J3.kIn) LT hb1).here ?_)
        cases b with
        | true =>
          have hloc : Loc X.env.scope n := .inl hln
          refine codeAny_handlers_suite_as ?_
          refine HandSPX.lands_againZ fl3 fun h4 fl4 up4 => ?_
          have J4 : Inv X pins σ' H' { s' with heap := h4 } := J.landed nb fl4.1 ((up.trans up3).trans up4) os ag
          obtain ⟨oe4, vs4, he4, hz4, hd4⟩ := fl4.there
          have S4 := inv_suiteT (inv_track J4 n0 he4 hd4 na nL np) a
          refine store_ok (X := X.suite a (X.pn ++ pins)) (v := .ref a) S4 hN hi hloc rfl (fun s5 S5 => ?_) (.inr hln)
          refine wpAny_mono ((hsu a (X.pn ++ pins)).run [] s5 _ _ _ S5 (hyes rfl a oe4 na hz4.1 hz4.2 ⟨_, hd4⟩)) (fun f s6 hsp => ?_) (fun _ _ z => False.elim z)
          have end_ : ∀ {σ6 : L2.St} {H6 : Hp} {Q : Shared → Prop}, Inv (X.suite a (X.pn ++ pins)) [] σ6 H6 s6 → (∀ s7, Inv X pins (σ6.set i none) H6 s7 → Q s7) →
              wpAny (model X.prog X.w) X.A (do bindName X.env n .none; unbindBehindTheSuite X.env n pos') (fun _ s7 => Q s7) X.xe s6 := fun {σ6 H6 Q} S6 hq => gone_ok (inv_unsuiteT S6 ok) hN hi hln hq
          cases f with
          | next =>
            obtain ⟨σ6, H6, S6, q6⟩ := hsp
            exact end_ S6 fun s7 J7 => ⟨_, _, J7, q6⟩
          | brk =>
            obtain ⟨σ6, H6, S6, q6⟩ := hsp
            exact end_ S6 fun s7 J7 => ⟨_, _, J7, q6⟩
          | cont =>
            obtain ⟨σ6, H6, S6, q6⟩ := hsp
            exact end_ S6 fun s7 J7 => ⟨_, _, J7, q6⟩
          | ret u =>
            obtain ⟨v6, σ6, H6, S6, r6, q6⟩ := hsp
            exact end_ S6 fun s7 J7 => ⟨_, _, _, J7, r6, q6⟩
        | false =>
          show wpAny _ X.A (handleBy (.ref a) X.env hds2) _ _ _
          exact ih (hno rfl)
    exact go hh w
  · cases f with
    | next =>
      obtain ⟨σ', H', J', q⟩ := hsp
      exact wpAny_execs_nil ⟨σ', H', J'.ofTry ok, q⟩
    | brk =>
      obtain ⟨σ', H', J', q⟩ := hsp
      exact ⟨σ', H', J'.ofTry ok, q⟩
    | cont =>
      obtain ⟨σ', H', J', q⟩ := hsp
      exact ⟨σ', H', J'.ofTry ok, q⟩
    | ret u =>
      obtain ⟨v, σ', H', J', r, q⟩ := hsp
      exact ⟨v, σ', H', J'.ofTry ok, r, q⟩
end
end Sz
set_option Elab.async false
set_option linter.all false
set_option maxRecDepth 100000
set_option maxHeartbeats 4000000
namespace Sz
open PySem PySem.Spec PyProof.Rows L2
/-- a clause: its class, its name's slot, its suite -/
structure SCl where
  c : Nat
  i : Option Nat
  m : MS
def putE (ρ : En) : Option Nat → Option S → En
  | none, _ => ρ
  | some i, s => ρ.set i s
/-- the first clause that takes it; none: not known -/
def exSel (exm : Nat → Nat → Option Bool) (c : Nat) : List SCl → Option (Option SCl)
  | [] => some none
  | l :: ls => (match exm c l.c with
    | some true => some (some l)
    | some false => exSel exm c ls
    | none => none)
def clFin (l : SCl) : Option (Fl × En × Sto) → Option (Fl × En × Sto)
  | some (.ex _, _, _) => none
  | some (fl, ρ, μ) => some (fl, putE ρ l.i none, μ)
  | none => none
def tryK (exm : Nat → Nat → Option Bool) (ls : List SCl) : Option (Fl × En × Sto) → Option (Fl × En × Sto)
  | some (.ex (.own c fs), ρ, μ) => (match exSel exm c ls with
    | some (some l) => clFin l (l.m (putE ρ l.i (some (.val (.exc c fs)))) μ)
    | some none => some (.ex (.own c fs), ρ, μ)
    | none => none)
  | r => r
def sTry (exm : Nat → Nat → Option Bool) (b : MS) (ls : List SCl) : MS := fun ρ μ => tryK exm ls (b ρ μ)
structure ExmF (g : G) (exm : Nat → Nat → Option Bool) : Prop where
  ok : ∀ c c' b, exm c c' = some b → PySem.W.exmOne g.K (.ref (g.cad c)) (.ref (g.cad c')) = some b
section
variable {g : G} {P : Program} {w : World} {mg : Str → Option Value} {base : Heap} {k : Nat} {N : List Str} {sc : Scope} {own cm gb : Bool} {X : Cx} {W : WX}
theorem Ct.tr (c : Ct g P w mg base k N sc own cm gb X W) {W' : WX} {pn : List (Addr × Obj)} {xe : Value → Shared → Prop} (tk : Takes (X.tr pn xe) W') (po : PassesOwn (model X.prog X.w) X.A X.env xe) : Ct g P w mg base k N sc own cm gb (X.tr pn xe) W' :=
  ⟨c.hP, c.hw, c.hK, c.hmg, c.hb, c.hN, c.nd, c.kd, c.hsc, c.calm, c.gd, c.room, c.hu, c.stk, c.frm, tk, c.fn, fun _ _ => po, c.ex⟩
theorem Ct.suite (c : Ct g P w mg base k N sc own cm gb X W) (a : Addr) (pn : List (Addr × Obj)) : Ct g P w mg base k N sc own false gb (X.suite a pn) W0 :=
  ⟨c.hP, c.hw, c.hK, c.hmg, c.hb, c.hN, c.nd, c.kd, c.hsc, (fun h => by cases h), c.gd, (fun h => by cases h), c.hu, c.stk, c.frm, (by
    rintro u s' ⟨_, _, _, _, _, _, _, _, _, _, _, _, _, _, _, _, w⟩
    exact w.elim), c.fn, (fun _ h => by cases h), c.ex⟩
end
section
variable {g : G} {F H : Hp} {as : List Addr} {μ : Sto}
theorem freezeX {p : Addr} {o : HO} (r : SR g F as μ H) (hp : H p = some o) (fp : F p = none) (nl : ∀ vs, o ≠ .lst vs) (ni : ∀ C d fs, o ≠ .ins C d fs) (nk : ∀ kvs, o ≠ .dK kvs) (nt : ∀ ps, o ≠ .tbl ps := by intro ps z; cases z) : SR g (upd F p o) as μ H ∧ Ext F as (upd F p o) as ∧ upd F p o p = some o := by
  have s1 : Same F (upd F p o) := same_upd fp
  refine ⟨⟨fun b u e => ?_, r.len, fun k a c e1 e2 => ?_, r.nd, r.live, r.tb.of (fun b ps e _ => e) s1 fun b ps e n m => ⟨by rw [upd_ne (fun z => nt ps (Option.some.inj (hp.symm.trans (by rw [← z]; exact e))))]; exact n, m⟩⟩, ⟨s1, [], (List.append_nil _).symm⟩, upd_same⟩
  · by_cases hb : b = p
    · rw [hb, upd_same] at e; rw [hb, ← e]; exact hp
    · rw [upd_ne hb] at e; exact r.sub _ _ e
  · have x := r.cells k a c e1 e2
    cases c with
    | lst ds =>
      obtain ⟨f, vs, h, z⟩ := (show F a = none ∧ ∃ vs, H a = some (.lst vs) ∧ Reps g F ds vs from x)
      have na : a ≠ p := fun q => by
        rw [q, hp] at h
        cases h
        exact nl _ rfl
      exact ⟨by rw [upd_ne na]; exact f, vs, h, z.mono s1⟩
    | frz d => exact Rep.mono s1 (show Rep g F d (.ref a) from x)
    | ins c fs =>
      obtain ⟨f, dx, vs, h, l, z⟩ := (show F a = none ∧ ∃ dx vs, H a = some (.ins (g.cad c) dx ((fs.map (·.1)).zip vs)) ∧ vs.length = fs.length ∧ Reps g F (fs.map (·.2)) vs from x)
      have na : a ≠ p := fun q => by
        rw [q, hp] at h
        cases h
        exact ni _ _ _ rfl
      exact ⟨by rw [upd_ne na]; exact f, dx, vs, h, l, z.mono s1⟩
    | pot j ds =>
      obtain ⟨f, b, us, hb, h, z⟩ := (show F a = none ∧ ∃ b us, (as.take k)[j]? = some b ∧ H a = some (.lst (.ref b :: us)) ∧ Reps g F ds us from x)
      have na : a ≠ p := fun q => by
        rw [q, hp] at h
        cases h
        exact nl _ rfl
      exact ⟨by rw [upd_ne na]; exact f, b, us, hb, h, z.mono s1⟩
    | dct kvs =>
      obtain ⟨f, ws, h, z⟩ := (show F a = none ∧ ∃ ws, H a = some (.dK ws) ∧ Paired (fun (p : Key × D) (q : Key × V) => p.1 = q.1 ∧ Rep g F p.2 q.2) kvs ws from x)
      have na : a ≠ p := fun q => by
        rw [q, hp] at h
        cases h
        exact nk _ rfl
      exact ⟨by rw [upd_ne na]; exact f, ws, h, Paired.mapP z fun _ _ w => ⟨w.1, w.2.mono s1⟩⟩
    | bk c fs =>
      obtain ⟨f, dx, bs, h, l, z⟩ := (show F a = none ∧ ∃ (dx : Addr) (bs : List Addr), H a = some (.ins (g.cad c) dx ((fs.map (·.1)).zip (bs.map V.ref))) ∧ bs.length = fs.length ∧ ∀ (i : Nat) (q : Str × Nat), fs[i]? = some q → ∃ b, bs[i]? = some b ∧ (as.take k)[q.2]? = some b from x)
      have na : a ≠ p := fun q => by
        rw [q, hp] at h
        cases h
        exact ni _ _ _ rfl
      exact ⟨by rw [upd_ne na]; exact f, dx, bs, h, l, z⟩
/-- what is caught, tracked and frozen -/
theorem caught {c : Nat} {fs : List D} {cls : Value} {d : Option Addr} {a : Addr} {oe : Obj} (sr : SR g F as μ H) (rx : RX g F H (.own c fs) cls d) (na : H a = none) (hc : oe.cls = cls) (hd : oe.dict = d) (hf : ∃ vs, oe.data = .fields vs) :
    ∃ F', Ext F as F' as ∧ SR g F' as μ (upd H a (exO a oe)) ∧ Rep g F' (.exc c fs) (.ref a) := by
  obtain ⟨h1, h2⟩ := (show cls = .ref (g.cad c) ∧ ((fs = [] ∧ d = none) ∨ ∃ a vs, fs ≠ [] ∧ d = some a ∧ H a = some (.xd ((g.fl c).zip vs)) ∧ vs.length = (g.fl c).length ∧ Reps g F fs vs) from rx)
  rcases h2 with ⟨rfl, rfl⟩ | ⟨dx, vs, hne, rfl, hx, hl, hr⟩
  · obtain ⟨r1, f1, n1⟩ := sr.loose (o := exO a oe) na
    obtain ⟨r2, x2, e2⟩ := r1.freeze (vs := []) upd_same f1 n1
    refine ⟨_, x2, r2, ?_⟩
    unfold Rep
    exact ⟨a, oe, a, [], rfl, e2, hc.trans h1, hf, (fun z => by rw [hd] at z; cases z), (fun _ => rfl), (fun _ => hd), Reps.nil⟩
  · have key : ∀ F1 : Hp, Ext F as F1 as → SR g F1 as μ H → F1 dx = some (.xd ((g.fl c).zip vs)) → ∃ F', Ext F as F' as ∧ SR g F' as μ (upd H a (exO a oe)) ∧ Rep g F' (.exc c fs) (.ref a) := fun F1 x1 s1 e1 => by
      obtain ⟨r1, f1, n1⟩ := s1.loose (o := exO a oe) na
      obtain ⟨r2, x2, e2⟩ := r1.freeze (vs := []) upd_same f1 n1
      refine ⟨_, x1.trans x2, r2, ?_⟩
      unfold Rep
      exact ⟨a, oe, dx, vs, rfl, e2, hc.trans h1, hf, (fun z => by
        rw [hd] at z
        cases z
        exact ⟨x2.1 _ _ e1, hl⟩), (fun z => (z hd).elim), (fun z => (hne z).elim), Reps.mono (x1.trans x2).1 hr⟩
    cases q : F dx with
    | some o =>
      have e := sr.sub _ _ q
      rw [hx] at e
      cases e
      exact key F .refl sr q
    | none =>
      obtain ⟨s1, x1, e1⟩ := freezeX sr hx q (fun _ z => by cases z) (fun _ _ _ z => by cases z) (fun _ z => by cases z)
      exact key _ x1 s1 e1
theorem putE_er {ρ : En} {σ : L2.St} {i : Option Nat} {s : S} {v : V} (h : ER g F as ρ σ) (r : RS g F as s v) : ER g F as (putE ρ i (some s)) (setO σ i (some v)) := by
  cases i with
  | none => exact h
  | some i => exact h.set r
theorem putE_none {ρ : En} {σ : L2.St} {i : Option Nat} (h : ER g F as ρ σ) : ER g F as (putE ρ i none) (setO σ i none) := by
  cases i with
  | none => exact h
  | some i =>
    refine ⟨by show (ρ.set i none).length ≤ (σ.set i none).length; rw [List.length_set, List.length_set]; exact h.len, fun j t q => ?_⟩
    have q : (ρ.set i none)[j]? = some (some t) := q
    show ∃ v, (σ.set i none)[j]? = some (some v) ∧ _
    by_cases e : j = i
    · subst e
      rw [List.getElem?_set_self'] at q
      cases z : ρ[j]? <;> rw [z] at q <;> cases q
    · rw [List.getElem?_set_ne (Ne.symm e)] at q ⊢
      exact h.at_ j t q
end
/-- the clauses and their codes -/
inductive HsOk (g : G) (P : Program) (w : World) (mg : Str → Option Value) (base : Heap) (k : Nat) (N : List Str) (sc : Scope) (gb : Bool) (X : Cx) : List ExceptHandler → List SCl → Prop
  | nil : HsOk g P w mg base k N sc gb X [] []
  | anon {x : Str} {c : Nat} {m : MS} {b₀ : Stmt} {suite : List Stmt} {np pos' : Pos} {hds : List ExceptHandler} {ls : List SCl} (hc : Names X x (.ref (g.cad c)))
      (hm : ∀ X W, Ct g P w mg base k N sc true false gb X W → SB g X W (b₀ :: suite) m) (r : HsOk g P w mg base k N sc gb X hds ls) :
      HsOk g P w mg base k N sc gb X (.ExceptHandler (some (.Name x np)) none (b₀ :: suite) pos' :: hds) (⟨c, none, m⟩ :: ls)
  | name {x n : Str} {c i : Nat} {m : MS} {b₀ : Stmt} {suite : List Stmt} {np pos' : Pos} {hds : List ExceptHandler} {ls : List SCl} (hc : Names X x (.ref (g.cad c))) (hl : locB N sc i n = true)
      (hm : ∀ X W, Ct g P w mg base k N sc true false gb X W → SB g X W (b₀ :: suite) m) (r : HsOk g P w mg base k N sc gb X hds ls) :
      HsOk g P w mg base k N sc gb X (.ExceptHandler (some (.Name x np)) (some n) (b₀ :: suite) pos' :: hds) (⟨c, some i, m⟩ :: ls)
section
variable {g : G} {P : Program} {w : World} {mg : Str → Option Value} {base : Heap} {k : Nat} {N : List Str} {sc : Scope} {gb : Bool} {X : Cx} {W : WX} {exm : Nat → Nat → Option Bool}
/-- a suite runs -/
theorem suite_wish {l : SCl} {c : Nat} {fs : List D} {ρ1 : En} {μ1 : Sto} {fl : Fl} {ρ' : En} {μ' : Sto} {F : Hp} {as : List Addr} {D : Ends} {suite : List Stmt} (cx : Ct g P w mg base k N sc true true gb X W)
    (hm : ∀ X W, Ct g P w mg base k N sc true false gb X W → SB g X W suite l.m) (h : clFin l (l.m (putE ρ1 l.i (some (.val (.exc c fs)))) μ1) = some (fl, ρ', μ')) (post : PostS g W F as D fl ρ' μ')
    {F' : Hp} {as' : List Addr} {σ' : L2.St} {cls : Value} {d : Option Addr} {H' : Hp} (x : Ext F as F' as') (sr : SR g F' as' μ1 H') (er : ER g F' as' ρ1 σ') (rx : RX g F' H' (.own c fs) cls d)
    (a : Addr) (oe : Obj) (na : H' a = none) (hc : oe.cls = cls) (hd : oe.dict = d) (hf : ∃ vs, oe.data = .fields vs) (pn : List (Addr × Obj)) :
    wpB (X.suite a pn) suite { nx := fun σ' H' => D.nx (setO σ' l.i none) H', rt := D.rt, bk := fun σ' H' => D.bk (setO σ' l.i none) H', ct := fun σ' H' => D.ct (setO σ' l.i none) H' } (setO σ' l.i (some (.ref a))) (upd H' a (exO a oe)) := by
  obtain ⟨F2, x2, sr2, rep⟩ := caught sr rx na hc hd hf
  have er2 : ER g F2 as' (putE ρ1 l.i (some (.val (.exc c fs)))) (setO σ' l.i (some (.ref a))) := putE_er (er.mono x2) rep
  cases hr : l.m (putE ρ1 l.i (some (.val (.exc c fs)))) μ1 with
  | none => rw [hr] at h; cases h
  | some z =>
    obtain ⟨fl2, ρ2, μ2⟩ := z
    rw [hr] at h
    refine (hm _ _ (cx.suite a pn)).run F2 as' _ μ1 _ _ _ fl2 ρ2 μ2 hr sr2 er2 ?_
    cases fl2 with
    | ex y => cases h
    | nx =>
      cases h
      exact fun F3 as3 σ3 H3 e s3 r3 => post F3 as3 _ H3 ((x.trans x2).trans e) s3 (putE_none r3)
    | bk =>
      cases h
      exact fun F3 as3 σ3 H3 e s3 r3 => post F3 as3 _ H3 ((x.trans x2).trans e) s3 (putE_none r3)
    | ct =>
      cases h
      exact fun F3 as3 σ3 H3 e s3 r3 => post F3 as3 _ H3 ((x.trans x2).trans e) s3 (putE_none r3)
    | rt s =>
      cases h
      exact fun F3 as3 v H3 e s3 r3 => post F3 as3 v H3 ((x.trans x2).trans e) s3 r3
theorem tryK_cons {l : SCl} {ls : List SCl} {c : Nat} {fs : List D} {ρ1 : En} {μ1 : Sto} {r : Fl × En × Sto} (h : tryK exm (l :: ls) (some (.ex (.own c fs), ρ1, μ1)) = some r) :
    (exm c l.c = some true ∧ clFin l (l.m (putE ρ1 l.i (some (.val (.exc c fs)))) μ1) = some r) ∨ (exm c l.c = some false ∧ tryK exm ls (some (.ex (.own c fs), ρ1, μ1)) = some r) := by
  unfold tryK at h
  dsimp only at h
  unfold exSel at h
  cases q : exm c l.c with
  | none => rw [q] at h; cases h
  | some b =>
    rw [q] at h
    cases b with
    | true => exact .inl ⟨rfl, h⟩
    | false => exact .inr ⟨rfl, h⟩
theorem hs_cls (cx : Ct g P w mg base k N sc true true gb X W) (xf : ExmF g exm) {hds : List ExceptHandler} {ls : List SCl} (h : HsOk g P w mg base k N sc gb X hds ls) :
    ∃ l : List Cl, ClsOk X hds l ∧ ∀ {c : Nat} {fs : List D} {ρ1 : En} {μ1 : Sto} {fl : Fl} {ρ' : En} {μ' : Sto} {F : Hp} {as : List Addr} {D : Ends}, tryK exm ls (some (.ex (.own c fs), ρ1, μ1)) = some (fl, ρ', μ') → PostS g W F as D fl ρ' μ' →
      ∀ F' as' σ' cls d H', Ext F as F' as' → SR g F' as' μ1 H' → ER g F' as' ρ1 σ' → RX g F' H' (.own c fs) cls d → wCls X.K W D l cls d σ' H' := by
  have hK : X.K = g.K := cx.hK
  induction h with
  | nil =>
    refine ⟨[], .nil, fun {c fs ρ1 μ1 fl ρ' μ' F as D} h post F' as' σ' cls d H' x sr er rx => ?_⟩
    cases h
    exact post F' as' σ' cls d H' x sr er rx
  | @anon x c0 m b₀ suite np pos' hds ls hc hm r ih =>
    obtain ⟨l, hl, ih⟩ := ih
    refine ⟨⟨.ref (g.cad c0), none, fun a D σ H => ∀ pn, wpB (X.suite a pn) (b₀ :: suite) D σ H⟩ :: l, .anon hc (fun a pn => ⟨fun pins s σ H D I h => h pn pins s I⟩) hl, fun {c fs ρ1 μ1 fl ρ' μ' F as D} h post F' as' σ' cls d H' x sr er rx => ?_⟩
    have hcls : cls = .ref (g.cad c) := rx.1
    rcases tryK_cons h with ⟨q, h⟩ | ⟨q, h⟩
    · refine ⟨true, by rw [hcls, hK]; exact xf.ok _ _ _ q, fun _ a oe na hc hd hf pn => ?_, fun z => by cases z⟩
      exact suite_wish cx (l := ⟨c0, none, m⟩) hm h post x sr er rx a oe na hc hd hf pn
    · exact ⟨false, by rw [hcls, hK]; exact xf.ok _ _ _ q, (fun z => by cases z), fun _ => ih h post F' as' σ' cls d H' x sr er rx⟩
  | @name x n c0 i m b₀ suite np pos' hds ls hc hlo hm r ih =>
    obtain ⟨l, hl, ih⟩ := ih
    obtain ⟨h1, h2⟩ := cx.loc1 hlo
    refine ⟨⟨.ref (g.cad c0), some i, fun a D σ H => ∀ pn, wpB (X.suite a pn) (b₀ :: suite) D σ H⟩ :: l, .name hc h1 h2 (fun a pn => ⟨fun pins s σ H D I h => h pn pins s I⟩) hl, fun {c fs ρ1 μ1 fl ρ' μ' F as D} h post F' as' σ' cls d H' x sr er rx => ?_⟩
    have hcls : cls = .ref (g.cad c) := rx.1
    rcases tryK_cons h with ⟨q, h⟩ | ⟨q, h⟩
    · refine ⟨true, by rw [hcls, hK]; exact xf.ok _ _ _ q, fun _ a oe na hc hd hf pn => ?_, fun z => by cases z⟩
      exact suite_wish cx (l := ⟨c0, some i, m⟩) hm h post x sr er rx a oe na hc hd hf pn
    · exact ⟨false, by rw [hcls, hK]; exact xf.ok _ _ _ q, (fun z => by cases z), fun _ => ih h post F' as' σ' cls d H' x sr er rx⟩
theorem Ct.try_ {body : List Stmt} {h₀ : ExceptHandler} {hds : List ExceptHandler} {pos : Pos} {mb : MS} {ls : List SCl} (cx : Ct g P w mg base k N sc true true gb X W) (xf : ExmF g exm)
    (hb : ∀ X W, Ct g P w mg base k N sc true true gb X W → SB g X W body mb) (hh : HsOk g P w mg base k N sc gb X (h₀ :: hds) ls) : SS g X W (.Try body (h₀ :: hds) [] [] pos) (sTry exm mb ls) := by
  obtain ⟨l, hl, wish⟩ := hs_cls cx xf hh
  refine ⟨fun F as ρ μ σ H D fl ρ' μ' h sr er post => wS (ps_tryT (tb := fun W' D σ H => ∀ (pn : List (Addr × Obj)) (xe : Value → Shared → Prop), Takes (X.tr pn xe) W' → PassesOwn (model X.prog X.w) X.A X.env xe → wpB (X.tr pn xe) body D σ H) (cx.stk rfl) (cx.frm rfl) cx.nd' (cx.ex rfl) cx.tk
    (fun W' pn xe tk po => ⟨fun pins s σ H D I h => h pn xe tk po pins s I⟩) hl) ?_⟩
  intro pn xe tk po
  unfold sTry at h
  cases hr : mb ρ μ with
  | none => rw [hr] at h; cases h
  | some z =>
    obtain ⟨fl1, ρ1, μ1⟩ := z
    rw [hr] at h
    refine (hb _ _ (cx.tr tk po)).run F as ρ μ σ H D fl1 ρ1 μ1 hr sr er ?_
    cases fl1 with
    | ex y =>
      obtain ⟨c, fs⟩ := y
      exact wish h post
    | nx => cases h; exact post
    | bk => cases h; exact post
    | ct => cases h; exact post
    | rt s => cases h; exact post
end
end Sz
set_option Elab.async false
set_option linter.all false
set_option maxRecDepth 100000
set_option maxHeartbeats 4000000
namespace Sz
open PySem PySem.Spec PyProof.Rows L2
/-- by one class -/
def isX (sub : Nat → Nat → Option Bool) (ty : Nat → String → Option Bool) (c : Nat) : D → Option Bool
  | .cls j => sub c j
  | .ty T => ty c T
  | _ => none
def isXs (sub : Nat → Nat → Option Bool) (ty : Nat → String → Option Bool) (c : Nat) : List D → Option Bool
  | [] => some false
  | d :: ds => (match isX sub ty c d with
    | some true => some true
    | some false => isXs sub ty c ds
    | none => none)
/-- what the head must tell of the exceptions' classes -/
structure ExcF (g : G) (sub : Nat → Nat → Option Bool) (ty : Nat → String → Option Bool) : Prop where
  c : ∀ c j b, sub c j = some b → ExcC g.K (g.cad c) ∧ PySem.W.kitOne g.K (.ref (g.cad c)) (.ref (g.cad j)) = some b
  t : ∀ c T b, ty c T = some b → ExcC g.K (g.cad c) ∧ PySem.W.kitOne g.K (.ref (g.cad c)) (.type T) = some b
section
variable {g : G} {X : Cx} {sub : Nat → Nat → Option Bool} {ty : Nat → String → Option Bool}
theorem isX_kit (xf : ExcF g sub ty) {F : Hp} {c : Nat} {d : D} {b : Bool} {v : V} {u : Value} (h : isX sub ty c d = some b) (r : Rep g F d v) (ru : RelV v u) : ExcC g.K (g.cad c) ∧ PySem.W.kitOne g.K (.ref (g.cad c)) u = some b := by
  unfold isX at h
  split at h
  · unfold Rep at r
    subst r
    cases (show u = .ref _ from ru)
    exact xf.c _ _ _ h
  · unfold Rep at r
    subst r
    cases (show u = .type _ from ru)
    exact xf.t _ _ _ h
  · cases h
theorem isXs_kit (xf : ExcF g sub ty) {F : Hp} {c : Nat} (hc : ExcC g.K (g.cad c)) : ∀ {ds : List D} {b : Bool} {vs : List V} {us : List Value}, isXs sub ty c ds = some b → Reps g F ds vs → Vals vs us → PySem.W.kitAny g.K (.ref (g.cad c)) us = some b
  | [], b, vs, us, h, r, ru => by
    cases h
    rw [Reps.nil_iff.mp r] at ru
    cases ru
    rfl
  | d :: ds, b, vs, us, h, r, ru => by
    obtain ⟨v, r', rfl, e1, e2⟩ := Reps.cons_iff.mp r
    cases ru with
    | cons x xs =>
      unfold isXs at h
      cases q : isX sub ty c d with
      | none => rw [q] at h; cases h
      | some z =>
        rw [q] at h
        have k := (isX_kit xf q e1 x).2
        unfold PySem.W.kitAny
        rw [k]
        cases z with
        | true => cases h; rfl
        | false => exact isXs_kit xf hc h e2 xs
theorem isXs_some (xf : ExcF g sub ty) {c : Nat} {d : D} {ds : List D} {b : Bool} (h : isXs sub ty c (d :: ds) = some b) : ExcC g.K (g.cad c) := by
  unfold isXs at h
  cases q : isX sub ty c d with
  | none => rw [q] at h; cases h
  | some z =>
    unfold isX at q
    split at q
    · exact (xf.c _ _ _ q).1
    · exact (xf.t _ _ _ q).1
    · cases q
end
end Sz
set_option Elab.async false
set_option linter.all false
set_option maxRecDepth 100000
set_option maxHeartbeats 4000000
namespace Sz
open PySem PySem.Spec PyProof.Rows L2
section
variable {cls fns : List Str} {fls : List (List Str)} {tb : List (Addr × Str)} {K : PySem.W.Frag} {t : XTab}
theorem xt_exc (h : xtB cls t K = true) {c : Nat} {p : Str × Nat} (hc : t.exs.lookup c = some p) : xcB K p = true ∧ cls.getD c "" = p.1 := by
  have h1 := List.all_eq_true.mp (He.ba (He.ba h).1).2 (c, p) (lkp_mem hc)
  exact ⟨(He.ba h1).1, beq_iff_eq.mp (He.ba h1).2⟩
theorem xt_xcf (h : xtB cls t K = true) {c : Nat} (hc : (t.exs.lookup c).isSome = true) : XcF (gOf cls fls K fns tb) K c := by
  obtain ⟨p, hp⟩ := Option.isSome_iff_exists.mp hc
  obtain ⟨h1, h2⟩ := xt_exc h hp
  obtain ⟨B, initId, fB⟩ := base_ok p.2
  unfold xcB at h1
  have e : (gOf cls fls K fns tb).cad c = He.ga K p.1 := by rw [← h2]; rfl
  refine ⟨⟨B, newOf p.2, initId, bmOf p.2, fB, ?_⟩, ?_, ?_, ?_⟩
  · rw [e]; exact (He.ba (He.ba h1).1).1
  · rw [e]; exact (He.ba (He.ba h1).1).2
  · rw [e]; exact beq_iff_eq.mp (He.ba (He.ba (He.ba h1).2).1).1
  · rw [e]; exact beq_iff_eq.mp (He.ba (He.ba (He.ba h1).2).1).2
theorem xt_ec (h : xtB cls t K = true) {c : Nat} (hc : (t.exs.lookup c).isSome = true) : ExcC K ((gOf cls fls K fns tb).cad c) := by
  obtain ⟨p, hp⟩ := Option.isSome_iff_exists.mp hc
  obtain ⟨h1, h2⟩ := xt_exc h hp
  unfold xcB at h1
  have e : (gOf cls fls K fns tb).cad c = He.ga K p.1 := by rw [← h2]; rfl
  have r := (He.ba (He.ba h1).2).2
  have k := (He.ba (He.ba h).1).1
  refine ⟨?_, ?_, ?_, ?_, ?_, beq_iff_eq.mp (He.ba k).1, beq_iff_eq.mp (He.ba k).2, ?_⟩
  · rw [e]; exact beq_iff_eq.mp (He.ba (He.ba r).1).1
  · rw [e]; exact beq_iff_eq.mp (He.ba (He.ba r).1).2
  · rw [e]; exact beq_iff_eq.mp (He.ba (He.ba (He.ba h1).2).1).1
  · rw [e]; exact (He.ba (He.ba (He.ba r).2).1).1
  · rw [e]; exact beq_iff_eq.mp (He.ba (He.ba (He.ba r).2).1).2
  · rw [e]; exact beq_iff_eq.mp (He.ba (He.ba r).2).2
theorem xt_exm (h : xtB cls t K = true) : ExmF (gOf cls fls K fns tb) t.exmF := ⟨fun c c' b e => beq_iff_eq.mp (List.all_eq_true.mp (He.ba (He.ba h).2).1 ((c, c'), b) (lkp_mem e))⟩
end
section
variable {g : G} {P : Program} {w : World} {mg : Str → Option Value} {base : Heap} {k : Nat} {N : List Str} {sc : Scope} {own cm gb : Bool} {X : Cx} {W : WX} {frees globs : List Str}
/-- raise C("..") -/
theorem Ct.raise {c : Nat} {x m : Str} {j : Nat} {p p2 pos pos' : Pos} (cx : Ct g P w mg base k N sc own true gb X W) (T : Tb g mg frees globs) (xf : XcF g g.K c) (hg : glB sc x = true) (hf : globs.contains x = true) (hc : g.cad c = He.ga g.K x) :
    SS g X W (.Raise (some (.Call (.Name x p) [.Constant (.str m) j p2] [] pos)) none pos') (sRaise c) := by
  obtain ⟨g1, g2, g3⟩ := cx.gl hg
  refine ss_raise (cx.calm rfl) cx.tk (cx.K ▸ xf) g1 ?_ g2
  rw [cx.hmg, (T.gl x hf).1, hc]
theorem Ct.names {c : Nat} {x : Str} (cx : Ct g P w mg base k N sc own cm gb X W) (T : Tb g mg frees globs) (hg : glB sc x = true) (hf : globs.contains x = true) (hc : g.cad c = He.ga g.K x) : Names X x (.ref (g.cad c)) := by
  obtain ⟨g1, g2, g3⟩ := cx.gl hg
  exact ⟨g1, g2, .inl (by rw [cx.hmg, (T.gl x hf).1, hc])⟩
end
end Sz
set_option Elab.async false
set_option linter.all false
set_option maxRecDepth 100000
set_option maxHeartbeats 4000000
namespace Sz
open PySem PySem.Spec PyProof.Rows L2
def mDicK (ks : List Key) (ds : List D) : ME := fun ρ μ => some (.ok (.val (.dic ks ds)), μ)
section
variable {g : G} {X : Cx} {W : WX}
theorem wp_lock {X : Cx} {e : Expr} {σ : L2.St} {H : Hp} {Q : V → Hp → Prop} (h : wpE X e σ H fun v H2 => ∃ a u, H2 a = some u ∧ Mut (some u) ∧ ∀ o, Q v (upd H2 a (.frz o u))) : wpE X e σ H Q := by
  intro pins s I
  refine thn (h pins s I) fun u s1 ⟨v, H1, I1, rv, a, o, h1, h2, h3⟩ => ?_
  obtain ⟨od, I2⟩ := I1.lock h1 h2
  exact ⟨v, _, I2, rv, h3 od⟩
theorem rep_dic {F H : Hp} {as : List Addr} {μ : Sto} {p : Addr} {ob : Obj} {ks : List Key} {ds : List D} {vs : List V} (sr : SR g F as μ H) (hp : H p = none) (hr : Reps g F ds vs) (hl : vs.length = ks.length) :
    ∃ F', Ext F as F' as ∧ SR g F' as μ (upd H p (.frz ob (.dK (ks.zip vs)))) ∧ Rep g F' (.dic ks ds) (.ref p) := by
  obtain ⟨r1, f1, n1⟩ := sr.loose (o := .frz ob (.dK (ks.zip vs))) hp
  obtain ⟨r2, x2, e2⟩ := r1.freeze (vs := []) upd_same f1 n1
  refine ⟨_, x2, r2, ?_⟩
  unfold Rep
  exact ⟨p, ob, vs, rfl, e2, hl, hr.mono x2.1⟩
theorem se_dic0 {pos : Pos} : SE g X W (.Dict [] [] pos) (mDicK [] []) := by
  refine ⟨fun F as ρ μ σ H Q r μ' h sr er post => wp_lock (wE pe_dnewK ?_)⟩
  cases h
  intro p hp
  refine ⟨p, _, upd_same, trivial, fun ob => ?_⟩
  rw [upd_upd]
  obtain ⟨F', x, s, rep⟩ := rep_dic (ob := ob) (ks := []) (vs := []) sr hp Reps.nil rfl
  exact post F' as _ _ x s rep
theorem se_dic1 {ke ve : Expr} {k : Key} {d : D} {u : V} {pos : Pos} (hk : PE X ke (fun σ H Q => Q (kV k) H)) (hv : PE X ve (fun σ H Q => Q u H)) (hd : ∀ F : Hp, Rep g F d u) : SE g X W (.Dict [some ke] [ve] pos) (mDicK [k] [d]) := by
  refine ⟨fun F as ρ μ σ H Q r μ' h sr er post => wp_lock (wE (pe_disp (pps_cons hk hv pps_nil) rfl rfl (by simp) (by show 1 ≤ 15; decide)) ?_)⟩
  cases h
  intro p hp
  refine ⟨upd_same, [(k, u)], rfl, by show 1 ≤ 15; decide, ?_⟩
  rw [upd_upd]
  refine ⟨p, _, upd_same, trivial, fun ob => ?_⟩
  rw [upd_upd]
  obtain ⟨F', x, s, rep⟩ := rep_dic (ob := ob) (ks := [k]) (vs := [u]) sr hp (Reps.cons (hd F) Reps.nil) rfl
  exact post F' as _ _ x s rep
end
end Sz
set_option Elab.async false
set_option linter.all false
set_option maxRecDepth 100000
set_option maxHeartbeats 4000000
namespace Sz
open PySem PySem.Spec L2
def tryX (exm : Nat → Nat → Option Bool) (c : Nat) (fs : List D) (ρ : En) (μ : Sto) : Option (Option SCl) → Option (Fl × En × Sto)
  | some (some l) => clFin l (l.m (putE ρ l.i (some (.val (.exc c fs)))) μ)
  | some none => some (.ex (.own c fs), ρ, μ)
  | none => none
def exSelK (o : Option Bool) (l : SCl) (r : Option (Option SCl)) : Option (Option SCl) := match o with
  | some true => some (some l)
  | some false => r
  | none => none
section
variable {exm : Nat → Nat → Option Bool} {b : MS} {ls : List SCl} {l : SCl} {ρ : En} {μ : Sto} {c d : Nat} {fs : List D} {s : S} {i : Option Nat} {m : MS} {r : Option (Option SCl)}
theorem sTry_ap : sTry exm b ls ρ μ = tryK exm ls (b ρ μ) := Eq.trans rfl rfl
theorem tryK_nx : tryK exm ls (some (.nx, ρ, μ)) = some (.nx, ρ, μ) := Eq.trans rfl rfl
theorem tryK_rt : tryK exm ls (some (.rt s, ρ, μ)) = some (.rt s, ρ, μ) := Eq.trans rfl rfl
theorem tryK_ex : tryK exm ls (some (.ex (.own c fs), ρ, μ)) = tryX exm c fs ρ μ (exSel exm c ls) := by
  unfold tryK tryX
  rfl
theorem exSel_nil : exSel exm c [] = some none := Eq.trans rfl rfl
theorem exSel_cons : exSel exm c (⟨d, i, m⟩ :: ls) = exSelK (exm c d) ⟨d, i, m⟩ (exSel exm c ls) := by
  conv => lhs; unfold exSel
  rfl
theorem exSelK_t : exSelK (some true) l r = some (some l) := Eq.trans rfl rfl
theorem exSelK_f : exSelK (some false) l r = r := Eq.trans rfl rfl
theorem tryX_cl : tryX exm c fs ρ μ (some (some ⟨d, i, m⟩)) = clFin ⟨d, i, m⟩ (m (putE ρ i (some (.val (.exc c fs)))) μ) := Eq.trans rfl rfl
theorem tryX_out : tryX exm c fs ρ μ (some none) = some (.ex (.own c fs), ρ, μ) := Eq.trans rfl rfl
theorem clFin_nx : clFin ⟨d, i, m⟩ (some (.nx, ρ, μ)) = some (.nx, putE ρ i none, μ) := Eq.trans rfl rfl
theorem clFin_rt : clFin ⟨d, i, m⟩ (some (.rt s, ρ, μ)) = some (.rt s, putE ρ i none, μ) := Eq.trans rfl rfl
theorem putE_some {j : Nat} {t : Option S} : putE ρ (some j) t = ρ.set j t := Eq.trans rfl rfl
theorem putE_non {t : Option S} : putE ρ none t = ρ := Eq.trans rfl rfl
theorem sRaise_ap : sRaise c ρ μ = some (.ex (.own c []), ρ, μ) := Eq.trans rfl rfl
theorem finM_err {mi : MkI} {k : Nat} {x : Ex} : finM mi k (some (.error x, μ)) = some (.error x, μ.take k) := Eq.trans rfl rfl
theorem mDicK_ap {ks : List Key} {ds : List D} : mDicK ks ds ρ μ = some (.ok (.val (.dic ks ds)), μ) := Eq.trans rfl rfl
end
end Sz
set_option Elab.async false
set_option linter.all false
set_option maxRecDepth 100000
set_option maxHeartbeats 4000000
namespace Sz
open PySem PySem.Spec PyProof.Rows L2
theorem own_pot {is ds : List D} {μ : Sto} : own true (.pot none is ds) μ = (.cell (μ ++ [C.lst is]).length, μ ++ [C.lst is] ++ [C.pot μ.length ds]) := Eq.trans rfl rfl
end Sz
set_option Elab.async false
set_option linter.all false
set_option maxRecDepth 100000
set_option maxHeartbeats 4000000
namespace Sz
open PySem PySem.Spec PyProof.Rows L2
end Sz
set_option Elab.async false
set_option linter.all false
set_option maxRecDepth 100000
set_option maxHeartbeats 4000000
namespace PySem.W
open PySem PySem.Spec PySem.Calls PyProof.Rows
section
variable {prog : Program} {w : World} {A : Around} {E : Value → Shared → Prop} {s : Shared} {K : Frag} {x D : Addr} {ox : Obj} {od : Option Obj}
theorem sz_findO {C : Addr} {name : Str} {a g : Value} (hc : (clsIn K C).isSome = true) (ha : findIn K (.ref C) name = some (some a)) (hg : specialIn K a "__get__" = some (some g)) (ht : takesIn K a = some true) : findObj K C od name = some (.bind g a) := by
  obtain ⟨cd, hc⟩ := Option.isSome_iff_exists.mp hc
  unfold findObj
  rw [hc, Option.bind_some, ha, Option.bind_some]
  simp [hg, ht]
theorem sz_class {Q : Option Value → Shared → Prop} (hga : findIn K (.ref D) "__getattribute__" = some (some (.builtin "BaseException.__getattribute__"))) (hgt : findIn K (.ref D) "__getattr__" = some none) (hsub : subIn K (.ref D) (.type "BaseException") = some true)
    (hdct : hasDictIn K D = true) (ha : findIn K (.ref D) "__class__" = some (some (.builtin "object.__class__")))
    (hn : specialIn K (.builtin "object.__class__") "__get__" = some (some (.builtin "getset_descriptor.__get__"))) (htk : takesIn K (.builtin "object.__class__") = some true) (hm : mroIn K D (.type "object") = some true)
    (X : K.In s.heap) (I : InstAt s.heap x ox D od) (h : Q (some (.ref D)) { s with toks := s.toks + 1 }) : wpAny (model prog w) A (getAttr? (.ref x) "__class__") Q E s := by
  have hf : findObj K D od "__class__" = some (.bind (.builtin "getset_descriptor.__get__") (.builtin "object.__class__")) := sz_findO (by obtain ⟨cd, hc, _⟩ := any_some hdct; rw [hc]; rfl) ha hn htk
  obtain ⟨hp, g, d, t, os⟩ := s
  have L0 := I.type (M := model prog w)
  have L1 := looks_findIn (M := model prog w) X hga
  have L2 := looks_findIn (M := model prog w) X hgt
  have L3 := looks_find (M := model prog w) X I hf
  have sub : Looks (model prog w) hp (isInstance (.ref x) (.type "BaseException")) true := L0.andThen (looks_subIn X hsub)
  have hx0 : (false && onTheHeap (Value.builtin "BaseException.__getattribute__")) = false := rfl
  have hx2 : (Value.builtin "BaseException.__getattribute__" == Value.builtin "object.__getattribute__") = false := by decide +kernel
  have hx1 : (onTheHeap (Value.ref D) && Value.builtin "BaseException.__getattribute__" == Value.builtin "object.__getattribute__") = false := by rw [hx2]; rfl
  unfold getAttr? getAttrBy? getAttrBy
  refine wpAny_bind (wpAny_mkText (wpAny_bind (wpAny_attempt (wpAny_holding (wpAny_bind (L0.at (wpAny_bind (L1.at ?_))))))))
  show wpAny _ _ (if (onTheHeap (Value.ref D) && Value.builtin "BaseException.__getattribute__" == Value.builtin "object.__getattribute__") = true then _ else _) _ _ _
  rw [hx1, if_neg Bool.false_ne_true]
  unfold getAttrByItsOwn hookBefore
  refine wpAny_bind ?_
  rw [if_pos (show onTheHeap (Value.ref D) = true from rfl)]
  refine L2.at ?_
  refine wpAny_bind (wpAny_attempt (wpAny_holding ?_))
  unfold callGetattribute
  rw [hx0, if_neg Bool.false_ne_true]
  unfold boundAndCalled
  rw [PySem.F.excAttr_ValueError.ga.bind (.ref x)]
  refine wpAny_bind (wpAny_pure ?_)
  show wpAny _ _ (call (.builtin "BaseException.__getattribute__") [.ref x, .str "__class__" t]) _ _ _
  refine wpAny_call (codeAny_call_builtin PySem.F.excAttr_ValueError.ga.plain PySem.F.entry_bexc_ga ?_)
  refine @check_slot (model prog w) _ _ ⟨hp, g, d, t + 1, os⟩ "BaseException.__getattribute__" "BaseException" "__getattribute__" (.ref x) [.str "__class__" t] [] _ (by decide +kernel) (by decide +kernel) sub (PySem.F.args_bexc_ga (.ref x) (.str "__class__" t)) ?_
  unfold Builtin.«object.__getattribute__»
  refine wpAny_bind (wpAny_of_eq (a := ((Value.ref x : Value), [Value.str "__class__" t])) (by first | rfl | (simp only [slotArgs]; rfl)) ?_)
  refine wpAny_bind (wpAny_pure (wpAny_bind (L0.at (wpAny_bind (L3.at ?_)))))
  show wpAny _ _ (holding [Value.builtin "object.__class__"] (call (.builtin "getset_descriptor.__get__") [.builtin "object.__class__", .ref x, .ref D]) >>= ret) _ _ _
  refine wpAny_bind (wpAny_holding (wpAny_call (class_get (s := ⟨hp, g, d, t + 1, os⟩) (ox := ox) (od := od) X I hm ?_)))
  refine wpAny_pure ?_
  show wpAny _ _ (handedOut (.ref D)) _ _ _
  rw [handedOut_of (v := .ref D) rfl]
  first
    | exact wpAny_pure (wpAny_pure h)
    | exact wpAny_pure h
    | exact wpAny_pure (wpAny_bind (wpAny_pure (wpAny_pure h)))
theorem sz_kitx (hga : findIn K (.ref D) "__getattribute__" = some (some (.builtin "BaseException.__getattribute__"))) (hgt : findIn K (.ref D) "__getattr__" = some none) (hsub : subIn K (.ref D) (.type "BaseException") = some true) (hdct : hasDictIn K D = true) (ha : findIn K (.ref D) "__class__" = some (some (.builtin "object.__class__")))
    (hn : specialIn K (.builtin "object.__class__") "__get__" = some (some (.builtin "getset_descriptor.__get__"))) (htk : takesIn K (.builtin "object.__class__") = some true) (hm : mroIn K D (.type "object") = some true) :
    KitX K (.ref x) (.ref D) (fun h => InstAt h x ox D od) where
  ty := fun _ _ _ I => I.type
  it := fun _ _ X _ => by
    obtain ⟨cdD, hcD, _⟩ := any_some hdct
    unfold clsIn at hcD
    split at hcD
    · rename_i c' d' cd' sl' ho
      intro A' Q' E' s' k q
      unfold isType loadHead
      exact wpAny_bind (wpAny_loadPart (k _ _ (X _ _ ho)) (wpAny_pure q))
    · cases hcD
  ne := fun h tp dd its n sl X htp => by
    obtain ⟨cdD, hcD, _⟩ := any_some hdct
    refine Bool.eq_false_iff.mpr fun q => ?_
    have e : D = tp := Value.ref.inj (beq_iff_eq.mp q)
    subst e
    unfold clsIn at hcD
    split at hcD
    · rename_i c' d' cd' sl' ho
      have z := (X _ _ ho).symm.trans htp
      cases z
    · cases hcD
  ca := fun X I k => sz_class hga hgt hsub hdct ha hn htk hm X I k
end
end PySem.W
namespace Sz
open PySem PySem.Spec PyProof.Rows L2
/-- what is caught, in the heap: its object, its dict -/
theorem exc_at {X : Cx} {g : G} {pins : List (Addr × Obj)} {σ : L2.St} {F H : Hp} {as : List Addr} {μ : Sto} {st : Shared} {c : Nat} {fs : List D} {v : V} (sr : SR g F as μ H) (r : Rep g F (.exc c fs) v) (I : Inv X pins σ H st) :
    ∃ a oe od, v = .ref a ∧ PySem.W.InstAt st.heap a oe (g.cad c) od ∧ (fs ≠ [] → ∃ dx vs mA o, od = some o ∧ H dx = some (.xd ((g.fl c).zip vs)) ∧ vs.length = (g.fl c).length ∧ Reps g F fs vs ∧ st.heap.Ns1 dx mA ∧ st.heap.get? dx = some o ∧ ∀ f, RelO (((g.fl c).zip vs).lookup f) (mA f)) := by
  unfold Rep at r
  obtain ⟨a, oe, dx, vs, rfl, e2, e3, ⟨ws, e4⟩, e5, e6, e8, e7⟩ := r
  have h := I.hok a _ (sr.sub _ _ e2)
  have hget : st.heap.get? a = some oe := h.1
  obtain ⟨oc, od, oda, osl⟩ := oe
  dsimp only at e3 e4
  subst e3 e4
  cases od with
  | none =>
    have hv : vs = [] := e6 (fun z => by cases z)
    refine ⟨a, _, none, rfl, ⟨hget, rfl, rfl, trivial⟩, fun hne => absurd ?_ hne⟩
    subst hv
    cases fs with
    | nil => rfl
    | cons d ds =>
      obtain ⟨_, _, z, _⟩ := Reps.cons_iff.mp e7
      cases z
  | some d =>
    by_cases hd : d = dx
    · subst hd
      obtain ⟨k1, k2⟩ := e5 rfl
      have hx := I.hok d _ (sr.sub _ _ k1)
      obtain ⟨mA, hns, hr⟩ := (show ObjOk X.prog X.w H st.heap d (.xd ((g.fl c).zip vs)) from hx)
      obtain ⟨o, ho, hl⟩ := lookIn_ns hns
      exact ⟨a, _, some o, rfl, ⟨hget, rfl, rfl, ho⟩, fun _ => ⟨d, vs, mA, o, rfl, sr.sub _ _ k1, k2, e7, hns, ho, hr⟩⟩
    · have hv : vs = [] := e6 (fun z => hd (Option.some.inj z))
      subst hv
      have hf : fs = [] := by
        cases fs with
        | nil => rfl
        | cons d ds =>
          obtain ⟨_, _, z, _⟩ := Reps.cons_iff.mp e7
          cases z
      exact absurd (e8 hf) (by intro z; cases z)
def bIsiY (sub : Nat → Nat → Option Bool) (ty : Nat → String → Option Bool) (op : List D → Option S) : List D → Option S
  | [.exc c _, .tup (d :: ds)] => (isXs sub ty c (d :: ds)).map fun b => .val (.bl b)
  | [.exc c _, k] => (isX sub ty c k).map fun b => .val (.bl b)
  | xs => op xs
theorem co_isiY {g : G} {X : Cx} {sub : Nat → Nat → Option Bool} {ty : Nat → String → Option Bool} {op : List D → Option S} (hg : g.K = X.K) (xf : ExcF g sub ty) (ho : CallOk g X (.builtin "isinstance") op) : CallOk g X (.builtin "isinstance") (bIsiY sub ty op) := by
  intro xs s F as μ H vs Q e sr hx k
  unfold bIsiY at e
  split at e
  · rename_i c fs d0 ds
    obtain ⟨b, h, rfl⟩ := Option.map_eq_some_iff.mp e
    obtain ⟨v, u, rfl, h1, h2⟩ := vrs2 hx
    intro pins st σ us I r
    obtain ⟨a, oe, od, rfl, J, _⟩ := exc_at sr (vr_rep (fun ds q => by cases q) h1) I
    have C := isXs_some xf h
    obtain ⟨v', u', rfl, rx, rt⟩ := vals2 r
    cases (show v' = .ref a from rx)
    · have h2' : Rep g F (.tup (d0 :: ds)) u := vr_rep (fun ds q => by cases q) h2
      unfold Rep at h2'
      obtain ⟨a2, ws, rfl, s1, r1⟩ := h2'
      cases (show u' = .ref a2 from rt)
      obtain ⟨its, v1, t1, z1⟩ := I.tuple (hg ▸ seqT_mono sr.sub s1)
      obtain ⟨⟨cls, dd, data, sl⟩, ho2, hc2, n, hd2⟩ := id t1
      simp only at hc2 hd2
      subst hc2 hd2
      have kk := isXs_kit xf C h r1 v1
      exact PySem.W.kia_tup (PySem.W.sz_kitx (hg ▸ C.hg) (hg ▸ C.hk) (hg ▸ C.hs) (hg ▸ C.hd) (hg ▸ C.ha) (hg ▸ C.hn) (hg ▸ C.ht) (hg ▸ C.hm)) I.kIn J ho2 (hg ▸ kk) (fun z => nomatch z) fun tk => ⟨.bl b, H, I.kept (t' := tk) fun _ _ z => z, rfl, k F as _ H .refl sr ra_bl⟩
  · rename_i c fs d _
    obtain ⟨b, h, rfl⟩ := Option.map_eq_some_iff.mp e
    obtain ⟨v, u, rfl, h1, h2⟩ := vrs2 hx
    intro pins st σ us I r
    obtain ⟨a, oe, od, rfl, J, _⟩ := exc_at sr (vr_rep (fun ds q => by cases q) h1) I
    obtain ⟨v', u', rfl, rx, rt⟩ := vals2 r
    cases (show v' = .ref a from rx)
    · have h2' : Rep g F d u := vr_rep (fun ds q => by rw [q] at h; cases h) h2
      obtain ⟨C, kk⟩ := isX_kit xf h h2' rt
      exact PySem.W.kia_one (PySem.W.sz_kitx (hg ▸ C.hg) (hg ▸ C.hk) (hg ▸ C.hs) (hg ▸ C.hd) (hg ▸ C.ha) (hg ▸ C.hn) (hg ▸ C.ht) (hg ▸ C.hm)) I.kIn J (hg ▸ kk) (fun z => nomatch z) fun tk => ⟨.bl b, H, I.kept (t' := tk) fun _ _ z => z, rfl, k F as _ H .refl sr ra_bl⟩
  · exact ho _ s F as μ H vs Q e sr hx k
end Sz
set_option Elab.async false
set_option linter.all false
set_option maxRecDepth 100000
set_option maxHeartbeats 4000000
namespace Sz
open PySem PySem.Spec PyProof.Rows L2
def subY (t : XTab) (xi : XIs) (c j : Nat) : Option Bool := if (t.exs.lookup c).isSome || (xi.lookup c).isSome then t.sub.lookup (c, j) else none
def tyY (t : XTab) (xi : XIs) (c : Nat) (T : String) : Option Bool := if (t.exs.lookup c).isSome || (xi.lookup c).isSome then t.ty.lookup (c, T) else none
section
variable {cls fns : List Str} {fls : List (List Str)} {tb : List (Addr × Str)} {K : PySem.W.Frag} {t : XTab} {xi : XIs}
theorem xi_one (h : xiA cls xi K = true) {c : Nat} {p : XI} (hc : xi.lookup c = some p) : xiB K p = true ∧ (gOf cls fls K fns tb).cad c = He.ga K p.nm := by
  have h1 := List.all_eq_true.mp h (c, p) (lkp_mem hc)
  refine ⟨(He.ba h1).1, ?_⟩
  show He.ga K (cls.getD c "") = _
  rw [beq_iff_eq.mp (He.ba h1).2]
theorem xi_ec (hx : xtB cls t K = true) {p : XI} (h : xiB K p = true) : ExcC K (He.ga K p.nm) := by
  unfold xiB at h
  have r := (He.ba (He.ba h).2).1
  have q := (He.ba (He.ba (He.ba h).2).2).1
  have k := (He.ba (He.ba hx).1).1
  exact ⟨beq_iff_eq.mp (He.ba (He.ba q).1).1, beq_iff_eq.mp (He.ba (He.ba q).1).2, beq_iff_eq.mp (He.ba (He.ba r).1).2, (He.ba (He.ba (He.ba h).1).2).1, beq_iff_eq.mp (He.ba q).2, beq_iff_eq.mp (He.ba k).1, beq_iff_eq.mp (He.ba k).2, beq_iff_eq.mp (He.ba (He.ba r).2).2⟩
theorem xt_isiY (hx : xtB cls t K = true) (h : xiA cls xi K = true) : ExcF (gOf cls fls K fns tb) (subY t xi) (tyY t xi) := by
  have key : ∀ c, ((t.exs.lookup c).isSome || (xi.lookup c).isSome) = true → ExcC K ((gOf cls fls K fns tb).cad c) := fun c q => by
    rcases Bool.or_eq_true_iff.mp q with q | q
    · exact xt_ec hx q
    · obtain ⟨p, hp⟩ := Option.isSome_iff_exists.mp q
      obtain ⟨h1, h2⟩ := xi_one (fls := fls) (fns := fns) (tb := tb) h hp
      rw [h2]
      exact xi_ec hx h1
  refine ⟨fun c j b e => ?_, fun c T b e => ?_⟩
  · unfold subY at e
    split at e
    · rename_i q
      exact ⟨key c q, beq_iff_eq.mp (List.all_eq_true.mp (He.ba (He.ba (He.ba hx).2).2).1 ((c, j), b) (lkp_mem e))⟩
    · cases e
  · unfold tyY at e
    split at e
    · rename_i q
      exact ⟨key c q, beq_iff_eq.mp (List.all_eq_true.mp (He.ba (He.ba (He.ba hx).2).2).2 ((c, T), b) (lkp_mem e))⟩
    · cases e
end
end Sz
set_option Elab.async false
set_option linter.all false
set_option maxRecDepth 100000
set_option maxHeartbeats 4000000
namespace Sz
open PySem PySem.Spec L2
end Sz
set_option Elab.async false
set_option linter.all false
set_option maxRecDepth 100000
set_option maxHeartbeats 4000000
namespace Sz
open PySem PySem.Spec PyProof.Rows L2
end Sz
set_option Elab.async false
set_option linter.all false
set_option maxRecDepth 100000
set_option maxHeartbeats 4000000
namespace Sz
open PySem PySem.Spec PyProof.Rows L2
end Sz
set_option Elab.async false
set_option linter.all false
set_option maxRecDepth 100000
set_option maxHeartbeats 4000000
namespace L2
open PySem PySem.Spec PyProof.Rows
end L2
namespace Sz
open PySem PySem.Spec PyProof.Rows L2
end Sz
set_option Elab.async false
set_option linter.all false
set_option maxRecDepth 100000
set_option maxHeartbeats 4000000
namespace Sz
open PySem PySem.Spec PyProof.Rows L2
end Sz
set_option Elab.async false
set_option linter.all false
set_option maxRecDepth 100000
set_option maxHeartbeats 4000000
namespace PySem
open Sem (wp)
open Builtin
open Builtin.List
def SzLow (h : Heap) : Nat → Addr → Prop
  | 0, a => ∀ o, h.get? a = some o → o.cls ≠ .type "tuple" ∧ o.cls ≠ .type "list" ∧ o.cls ≠ .type "dict"
  | k + 1, a => (∀ (o : Obj) (its : Array Value) (n : Nat), h.get? a = some o → (o.cls = .type "tuple" ∨ o.cls = .type "list") → o.data = .seq its n → ∀ b, Value.ref b ∈ its.toList → SzLow h k b) ∧
    (∀ (o : Obj) (es : Array DictEntry) (n : Nat), h.get? a = some o → o.cls = .type "dict" → o.data = .dict es n → ∀ e ∈ es.toList, ∀ b, e.val = .ref b → SzLow h k b)
theorem SzLow.up {h : Heap} : ∀ {k : Nat} {a : Addr}, SzLow h k a → SzLow h (k + 1) a
  | 0, a, l => ⟨fun o its n ho hc _ => by
    rcases hc with hc | hc
    · exact absurd hc (l o ho).1
    · exact absurd hc (l o ho).2.1, fun o es n ho hc => absurd hc (l o ho).2.2⟩
  | k + 1, a, l => ⟨fun o its n ho hc hd b hb => SzLow.up (l.1 o its n ho hc hd b hb), fun o es n ho hc hd e he b hb => SzLow.up (l.2 o es n ho hc hd e he b hb)⟩
theorem SzLow.mono {h : Heap} {j k : Nat} {a : Addr} (l : SzLow h j a) (hjk : j ≤ k) : SzLow h k a := by
  induction hjk with
  | refl => exact l
  | step _ ih => exact ih.up
def SzCl (h₀ : Heap) (n : Nat) (g : List Code) : Prop := ∀ id v rest kw, Code.builtin id ⟨v :: rest, kw⟩ ∈ g → ∃ a, v = .ref a ∧ ¬ SzLow h₀ n a
theorem SzCl.nil {h₀ : Heap} {n : Nat} : SzCl h₀ n [] := fun _ _ _ _ h => nomatch h
theorem SzCl.cons {h₀ : Heap} {n m : Nat} {g : List Code} {a : Addr} {id : String} {rest : List Value} {kw : List (Str × Value)} (c : SzCl h₀ n g) (hm : m ≤ n) (ha : ¬ SzLow h₀ m a) : SzCl h₀ m (.builtin id ⟨.ref a :: rest, kw⟩ :: g) := fun id' v rest' kw' h => by
  rcases List.mem_cons.mp h with e | h
  · cases e
    exact ⟨a, rfl, ha⟩
  · obtain ⟨b, e, hn⟩ := c id' v rest' kw' h
    exact ⟨b, e, fun z => hn (z.mono hm)⟩
end PySem
namespace Sz
open PySem PySem.Spec PyProof.Rows L2
section
variable {g : G} {P : Program} {w : World} {mg : Str → Option Value} {base : Heap} {k : Nat} {N : List Str} {sc : Scope} {own cm gb gc : Bool} {X : Cx} {W : WX}
theorem JR.kept {pins : List (Addr × Obj)} {σ : L2.St} {F : Hp} {as : List Addr} {μ : Sto} {s : Shared} {h' : Heap} {tk : Nat} (h : JR g X pins σ F as μ s) (q : ∀ b o, s.heap.get? b = some o → h'.get? b = some o) : JR g X pins σ F as μ { s with heap := h', toks := tk } := by
  obtain ⟨F', as', H', x, sr, I⟩ := h
  exact ⟨F', as', H', x, sr, I.kept q⟩
/-- with a pinned list P of ours -/
def JQ (g : G) (X : Cx) (pins : List (Addr × Obj)) (σ : L2.St) (F : Hp) (as : List Addr) (μ : Sto) (Pa : Addr) (ob : Obj) (s : Shared) : Prop :=
  JR g X (pins ++ [(Pa, ob)]) σ F as μ s ∧ X.s_0.heap.objs.size ≤ Pa ∧ (∀ x c, X.env.cells.lookup x = some c → c ≠ Pa) ∧ ∀ p ∈ X.pn ++ pins, p.1 ≠ Pa
theorem inv_drop {pins more : List (Addr × Obj)} {σ : L2.St} {H : Hp} {s : Shared} (I : Inv X (pins ++ more) σ H s) : Inv X pins σ H s :=
  I.pins_of fun p hp => I.pin p (List.mem_append_right _ (List.mem_append_left _ hp))
theorem JQ.drop {pins : List (Addr × Obj)} {σ : L2.St} {F : Hp} {as : List Addr} {μ : Sto} {Pa : Addr} {ob : Obj} {s : Shared} (h : JQ g X pins σ F as μ Pa ob s) : JR g X pins σ F as μ s := by
  obtain ⟨⟨F', as', H', x, sr, I⟩, _⟩ := h
  exact ⟨F', as', H', x, sr, inv_drop I⟩
theorem JQ.at_ {pins : List (Addr × Obj)} {σ : L2.St} {F : Hp} {as : List Addr} {μ : Sto} {Pa : Addr} {ob : Obj} {s : Shared} (h : JQ g X pins σ F as μ Pa ob s) : s.heap.get? Pa = some ob := by
  obtain ⟨⟨F', as', H', x, sr, I⟩, _⟩ := h
  exact (I.pin (Pa, ob) (List.mem_append_right _ (List.mem_append_right _ (List.mem_singleton.mpr rfl)))).1
theorem JQ.new {pins : List (Addr × Obj)} {σ : L2.St} {F : Hp} {as : List Addr} {μ : Sto} {s : Shared} {ob : Obj} (h : JR g X pins σ F as μ s) (hc : ∀ v, ob.data ≠ .cell v) (hf : ob.isFreed = false) : JQ g X pins σ F as μ s.heap.objs.size ob { s with heap := s.heap.push ob } := by
  obtain ⟨F', as', H', x, sr, I⟩ := h
  obtain ⟨f1, f2, f3, f4, f5, f6⟩ := I.fpOk (H' := H') (Nat.le_refl _) (I.hok.fresh (Nat.le_refl _))
  have I2 : Inv X pins σ H' { s with heap := s.heap.push ob } := I.kept (h' := s.heap.push ob) (t' := s.toks) fun b o q => Heap.get?_push_of_some _ q
  refine ⟨⟨F', as', H', x, sr, I2.pins_of fun p hp => ?_⟩, I.sz, f5, f6⟩
  rcases List.mem_append.mp hp with hp | hp
  · exact I2.pin p (List.mem_append_right _ hp)
  · rw [List.mem_singleton.mp hp]
    exact ⟨Heap.get?_push_size _ hf, f1, f2, f3, hc⟩
theorem JQ.tok {pins : List (Addr × Obj)} {σ : L2.St} {F : Hp} {as : List Addr} {μ : Sto} {Pa : Addr} {ob : Obj} {s : Shared} (h : JQ g X pins σ F as μ Pa ob s) (tk : Nat) : JQ g X pins σ F as μ Pa ob { s with toks := tk } := ⟨h.1.tok tk, h.2⟩
theorem JQ.write {pins : List (Addr × Obj)} {σ : L2.St} {F : Hp} {as : List Addr} {μ : Sto} {Pa : Addr} {ob ob' : Obj} {s : Shared} {f : Obj → Obj} (h : JQ g X pins σ F as μ Pa ob s) (tk : Nat) (hget : (s.heap.update Pa f).get? Pa = some ob') (hc : ∀ v, ob'.data ≠ .cell v) : JQ g X pins σ F as μ Pa ob' { s with heap := s.heap.update Pa f, toks := tk } := by
  obtain ⟨⟨F', as', H', x, sr, I⟩, h1, h2, h3⟩ := h
  obtain ⟨p1, p2, p3, p4, p5⟩ := I.pin (Pa, ob) (List.mem_append_right _ (List.mem_append_right _ (List.mem_singleton.mpr rfl)))
  have I2 := (inv_drop I).turned (h' := s.heap.update Pa f) (t' := tk) (fun b o hb q => (Heap.get?_update_other _ _ (Ne.symm hb)).trans q) p2 p3 (.inr h1) h2 h3
  refine ⟨⟨F', as', H', x, sr, I2.pins_of fun p hp => ?_⟩, h1, h2, h3⟩
  rcases List.mem_append.mp hp with hp | hp
  · exact I2.pin p (List.mem_append_right _ hp)
  · rw [List.mem_singleton.mp hp]
    exact ⟨hget, p2, p3, p4, hc⟩
theorem Room.under1 {r : Nat} {A : Around} {c : Code} (h : Room (r + 1) A) (hw : c.weight ≤ 1) (hu : c.cUnits ≤ 1) : Room r (A.under c) := by
  refine ⟨h.hd, ?_, ?_⟩
  · have := h.dp
    show A.depth + c.weight + 3 * r + 5 < _
    omega
  · have := h.un
    show A.units + c.cUnits + 16 * r + 200 < _
    omega
/-- what a place of the walk must bear -/
structure AtA (X : Cx) (r : Nat) (A : Around) : Prop where
  room : Room r A
  fr : A.frames = X.A.frames
theorem AtA.mono {r r' : Nat} {A : Around} (h : AtA X r A) (e : r' ≤ r) : AtA X r' A := ⟨h.room.mono e, h.fr⟩
theorem w_tup (b : Value) (a : Addr) : (Code.builtin "tuple.__repr__.under" ⟨[.ref a, b], []⟩).weight ≤ 1 ∧ (Code.builtin "tuple.__repr__.under" ⟨[.ref a, b], []⟩).cUnits ≤ 1 := by
  constructor
  · first | (simp [Code.weight, Code.frames, Code.isCreation, Code.isGuard, Code.isCaller, guardIds]; rfl) | exact Nat.le_refl _
  · first | exact Nat.le_refl _ | (simp [Code.cUnits, Code.frames])
theorem w_lst (rest : List Value) (a : Addr) : (Code.builtin "list.__repr__.loop" ⟨.ref a :: rest, []⟩).weight ≤ 1 ∧ (Code.builtin "list.__repr__.loop" ⟨.ref a :: rest, []⟩).cUnits ≤ 1 := by
  constructor
  · first | (simp [Code.weight, Code.frames, Code.isCreation, Code.isGuard, Code.isCaller, guardIds]; rfl) | exact Nat.le_refl _
  · first | exact Nat.le_refl _ | (simp [Code.cUnits, Code.frames])
theorem AtA.tup {r : Nat} {A : Around} (h : AtA X (r + 1) A) (a : Addr) (b : Value) : AtA X r (A.under (.builtin "tuple.__repr__.under" ⟨[.ref a, b], []⟩)) := ⟨Room.under1 h.room (w_tup b a).1 (w_tup b a).2, by
  have := h.fr
  first | exact this | (simpa [Around.under, Code.envs, Code.isFrame, pushEnvs] using this)⟩
theorem w_dic (rest : List Value) (a : Addr) (b : Value) : (Code.builtin "dict.__repr__.under" ⟨[.ref a, b], []⟩).weight ≤ 1 ∧ (Code.builtin "dict.__repr__.under" ⟨[.ref a, b], []⟩).cUnits ≤ 1 := by
  constructor
  · first | (simp [Code.weight, Code.frames, Code.isCreation, Code.isGuard, Code.isCaller, guardIds]; rfl) | exact Nat.le_refl _
  · first | exact Nat.le_refl _ | (simp [Code.cUnits, Code.frames])
theorem AtA.dic {r : Nat} {A : Around} (h : AtA X (r + 1) A) (a : Addr) (b : Value) : AtA X r (A.under (.builtin "dict.__repr__.under" ⟨[.ref a, b], []⟩)) := ⟨Room.under1 h.room (w_dic [] a b).1 (w_dic [] a b).2, by
  have := h.fr
  first | exact this | (simpa [Around.under, Code.envs, Code.isFrame, pushEnvs] using this)⟩
theorem AtA.lst {r : Nat} {A : Around} (h : AtA X (r + 1) A) (a : Addr) (rest : List Value) : AtA X r (A.under (.builtin "list.__repr__.loop" ⟨.ref a :: rest, []⟩)) := ⟨Room.under1 h.room (w_lst rest a).1 (w_lst rest a).2, by
  have := h.fr
  first | exact this | (simpa [Around.under, Code.envs, Code.isFrame, pushEnvs] using this)⟩
end
end Sz
set_option Elab.async false
set_option linter.all false
set_option maxRecDepth 100000
set_option maxHeartbeats 4000000
namespace Sz
open PySem PySem.Spec PyProof.Rows L2
end Sz
set_option Elab.async false
set_option linter.all false
set_option maxRecDepth 100000
set_option maxHeartbeats 4000000
namespace Sz
open PySem PySem.Spec PyProof.Rows L2
end Sz
set_option Elab.async false
set_option linter.all false
set_option maxRecDepth 100000
set_option maxHeartbeats 4000000
namespace Sz
open PySem PySem.Spec L2
end Sz
set_option Elab.async false
set_option linter.all false
set_option maxRecDepth 100000
set_option maxHeartbeats 4000000
namespace Sz
open PySem PySem.Spec PyProof.Rows L2
end Sz
set_option Elab.async false
set_option linter.all false
set_option maxRecDepth 100000
set_option maxHeartbeats 4000000
namespace Sz
open PySem PySem.Spec PyProof.Rows L2
end Sz
set_option Elab.async false
set_option linter.all false
set_option maxRecDepth 100000
set_option maxHeartbeats 4000000
namespace Sz
open PySem PySem.Spec PyProof.Rows L2
end Sz
set_option Elab.async false
set_option linter.all false
set_option maxRecDepth 100000
set_option maxHeartbeats 4000000
namespace Sz
open PySem PySem.Spec PyProof.Rows L2
end Sz
set_option Elab.async false
set_option linter.all false
set_option maxRecDepth 100000
set_option maxHeartbeats 4000000
namespace Sz
open PySem PySem.Spec PyProof.Rows L2
section
variable {g : G} {X : Cx}
theorem mt_rpartition : MtR X "str.rpartition" (fun x xs H Q => ∃ a b, x = .str a ∧ xs = [.str b] ∧ (b.length == 0) = false ∧ a.length ≤ sizeLine ∧
    ∀ p, H p = none → Q (.ref p) (upd H p (.tup [.str (Txt.rpartition a b).1, .str (Txt.rpartition a b).2.1, .str (Txt.rpartition a b).2.2]))) := by
  intro pins s σ H x xs v us Q I rx rs h
  obtain ⟨a, b, rfl, rfl, hb, hz, h⟩ := h
  obtain ⟨t, rfl⟩ := rx
  cases rs with
  | cons r1 rs =>
    cases rs
    obtain ⟨u, rfl⟩ := r1
    refine call_meets PySem.F.slot_str_rpartition (typeIs_str _ _ _) PySem.F.entry_str_rpartition (PySem.F.args_str_rpartition_2 _ _) (meets_str_rpartition a b t u hb hz) ?_
    unfold Txt.rpartition at h
    revert h
    cases Builtin.Str.lastOccurrence a b 0 a.length with
    | none => intro h; exact laid_parts I h
    | some i => intro h; exact laid_parts I h
def dRPart : D → D → Option S
  | .str a, .str b => if (b.length == 0) = false ∧ a.length ≤ sizeLine then some (.val (.tup [.str (Txt.rpartition a b).1, .str (Txt.rpartition a b).2.1, .str (Txt.rpartition a b).2.2])) else none
  | _, _ => none
theorem sm_rpart : SmOk g X (fun x xs H Q => ∃ a b, x = .str a ∧ xs = [.str b] ∧ (b.length == 0) = false ∧ a.length ≤ sizeLine ∧
      ∀ p, H p = none → Q (.ref p) (upd H p (.tup [.str (Txt.rpartition a b).1, .str (Txt.rpartition a b).2.1, .str (Txt.rpartition a b).2.2]))) dRPart := by
  intro z y s F as μ H u Q e sr hy k
  unfold dRPart at e
  split at e
  · rename_i a b h1
    cases h1
    split at e
    · rename_i hz
      cases e
      cases vr_str hy
      refine ⟨_, b, rfl, rfl, hz.1, hz.2, fun p hp => ?_⟩
      obtain ⟨sr4, x4, e4⟩ := sr.frozen (o := .tup [.str (Txt.rpartition z b).1, .str (Txt.rpartition z b).2.1, .str (Txt.rpartition z b).2.2]) hp
      refine k _ as (.ref p) _ x4 sr4 (show Rep g _ (.tup _) (.ref p) from ?_)
      unfold Rep
      exact ⟨p, _, rfl, SqT.of e4, Reps.cons (by unfold Rep; rfl) (Reps.cons (by unfold Rep; rfl) (Reps.cons (by unfold Rep; rfl) Reps.nil))⟩
    · cases e
  · cases e
end
theorem dPart_some {a b : Str} (h1 : (b.length == 0) = false) (h2 : a.length ≤ sizeLine) : dPart (.str a) (.str b) = some (.val (.tup [.str (Txt.partition a b).1, .str (Txt.partition a b).2.1, .str (Txt.partition a b).2.2])) := if_pos ⟨h1, h2⟩
theorem dRPart_some {a b : Str} (h1 : (b.length == 0) = false) (h2 : a.length ≤ sizeLine) : dRPart (.str a) (.str b) = some (.val (.tup [.str (Txt.rpartition a b).1, .str (Txt.rpartition a b).2.1, .str (Txt.rpartition a b).2.2])) := if_pos ⟨h1, h2⟩
section
variable {g : G} {P : Program} {w : World} {mg : Str → Option Value} {base : Heap} {k : Nat} {N : List Str} {sc : Scope} {own cm gb : Bool} {X : Cx} {W : WX}
/-- x, y = [.. for ..] -/
theorem Ct.tupSC {es : List Expr} {kt : Nat} {pt pos : Pos} {sl : List Nat} {ts : List MG} {elt : Expr} {gens : List Comprehension} {csc : Scope} {cpos : Pos} {m : ME} (c : Ct g P w mg base k N sc own true gb X W) (hs : SGs g X es sl ts) (he : SE g X W (.ListComp elt gens csc cpos) m) :
    SS g X W (.Assign [.Tuple es kt pt] (.ListComp elt gens csc cpos) pos) (sAsg (gTu ts) m) :=
  ss_asgT (sg_tup c.K (c.calm rfl) hs) rfl rfl rfl he
end
end Sz
set_option Elab.async false
set_option linter.all false
set_option maxRecDepth 100000
set_option maxHeartbeats 4000000
namespace Sz
open PySem PySem.Spec PyProof.Rows L2
abbrev KD := List (Key × D)
end Sz
set_option Elab.async false
set_option linter.all false
set_option maxRecDepth 100000
set_option maxHeartbeats 4000000
namespace Sz
open PySem PySem.Spec PyProof.Rows L2
/-- what its __init__ does -/
def spBk (g : G) (c : Nat) (f1 f2 : Str) : Sp := fun vs H Q E => ∃ (a dx : Addr), vs = [.ref a] ∧ H a = some (.ins (g.cad c) dx []) ∧
  ∀ p q, H p = none → H q = none → q ≠ p → Q .non (upd (upd (upd (upd H p (.dK [])) a (.ins (g.cad c) dx [(f1, .ref p)])) q (.lst [])) a (.ins (g.cad c) dx [(f1, .ref p), (f2, .ref q)]))
structure BkC (gb : Bool) (g : G) (P : Program) (w : World) (mg : Str → Option Value) (base : Heap) (c : Nat) (f1 f2 : Str) (k : Nat) (f : Addr) : Prop where
  ok : ∃ fd x, FnG gb P w g.K mg base (CX P w) k f fd [x] (spBk g c f1 f2) ∧ Bnd g.K fd [x] 1 [] []
section
variable {gb : Bool} {g : G} {P : Program} {w : World} {mg : Str → Option Value} {base : Heap} {k c : Nat} {N : List Str} {x sx qual f1 f2 : Str} {params : Arguments} {scope : Scope} {f : Addr} {p1 p2 p3 p4 p5 p6 p7 p8 : Pos}
theorem BkC.of (h : ∃ fd, FunD g.K x qual params [.Assign [.Attribute (.Name sx p1) f1 p2] (.Dict [] [] p3) p4, .Assign [.Attribute (.Name sx p5) f2 p6] (.List [] p7) p8] scope [] [] f fd) (S : FnScope [sx] [sx] scope)
    (hv : visB scope sx = true) (hd : (sx == ("__debug__" : Str)) = false) (hcd : (sx == ("__classdict__" : Str)) = false) (hne : f1 ≠ f2)
    (hcl : Cls g.K (g.cad c)) (hn1 : NoAttr g.K (g.cad c) f1) (hn2 : NoAttr g.K (g.cad c) f2)
    (hB : ∀ fd, FunD g.K x qual params [.Assign [.Attribute (.Name sx p1) f1 p2] (.Dict [] [] p3) p4, .Assign [.Attribute (.Name sx p5) f2 p6] (.List [] p7) p8] scope [] [] f fd → Bnd g.K fd [sx] 1 [] []) : BkC gb g P w mg base c f1 f2 (k + 1) f := by
  obtain ⟨fd, FD⟩ := h
  refine ⟨fd, sx, by_body FD S (fun vs H Q E h => ?_) fun cdv _ A outer s H vs Q E hr hgd hsp => ?_, hB fd FD⟩
  · obtain ⟨a, dx, rfl, _⟩ := h
    rfl
  · obtain ⟨a, dx, rfl, ha, hq⟩ := hsp
    have hvis : Vis (cxOf (CX P w) P w g.K mg base [sx] qual scope f cdv A outer s H E).env.scope sx := by
      show Vis scope sx
      unfold Vis
      unfold visB at hv
      split at hv
      · rename_i e; exact .inl e
      · rename_i e; exact .inr (.inl e)
      · rename_i e; exact .inr (.inr e)
      · cases hv
    refine ⟨_, pss_cons (ps_fld (pe_var (i := 0) rfl hvis hd hcd) pe_dnewK swaps_attr) (pss_cons (ps_fld (pe_var (i := 0) rfl hvis hd hcd) (pe_lst pa_nil) swaps_attr) pss_nil), ?_⟩
    intro p hp
    have npa : a ≠ p := ne_of_none ha hp
    refine ⟨.ref a, rfl, a, _, dx, [], rfl, by rw [upd_ne npa]; exact ha, hcl, hn1, by show (0 : Nat) < 1000; decide, ?_⟩
    refine ⟨by show (0 : Nat) ≤ sizeLine; exact Nat.zero_le _, fun q hq' => ?_⟩
    have nqa : q ≠ a := fun e => by rw [e, upd_same] at hq'; cases hq'
    rw [upd_ne nqa] at hq'
    have nqp : q ≠ p := fun e => by rw [e, upd_same] at hq'; cases hq'
    rw [upd_ne nqp] at hq'
    refine ⟨.ref a, rfl, a, _, dx, [(f1, .ref p)], rfl, by rw [upd_ne (Ne.symm nqa), upd_same]; rfl, hcl, hn2, by show (1 : Nat) < 1000; decide, ?_⟩
    have e2 : putF f2 (.ref q) [(f1, V.ref p)] = [(f1, .ref p), (f2, .ref q)] := by
      show (if f1 = f2 then _ else _) = _
      rw [if_neg hne]
      rfl
    show Q .non (upd _ a (.ins (g.cad c) dx (putF f2 (.ref q) [(f1, V.ref p)])))
    rw [e2]
    exact hq p q hp hq' nqp
end
end Sz
set_option Elab.async false
set_option linter.all false
set_option maxRecDepth 100000
set_option maxHeartbeats 4000000
namespace Sz
open PySem PySem.Spec PyProof.Rows L2
section
variable {ρ : En} {μ : Sto} {o i m : ME} {k : Nat} {kvs : KD} {d e : D} {key : Key} {s1 : S} {r : Option R} {c c0 : Nat} {fs : List (Str × Nat)} {f f1 f2 : Str} {neg : Bool}
theorem toD_v : toD μ (.val d) = some (d, μ) := Eq.trans rfl rfl
end
end Sz
set_option Elab.async false
set_option linter.all false
set_option maxRecDepth 100000
set_option maxHeartbeats 4000000
namespace Sz
open PySem PySem.Spec PyProof.Rows L2
end Sz
set_option Elab.async false
set_option linter.all false
set_option maxRecDepth 100000
set_option maxHeartbeats 4000000
namespace Sz
open PySem PySem.Spec PyProof.Rows L2
end Sz
set_option Elab.async false
set_option linter.all false
set_option maxRecDepth 100000
set_option maxHeartbeats 4000000
namespace Sz
open PySem PySem.Spec PyProof.Rows L2 PySem.W
end Sz
set_option Elab.async false
set_option linter.all false
set_option maxRecDepth 100000
set_option maxHeartbeats 4000000
namespace Sz
open PySem PySem.Spec PyProof.Rows L2 PySem.W
end Sz
set_option Elab.async false
set_option linter.all false
set_option maxRecDepth 100000
set_option maxHeartbeats 4000000
namespace Sz
open PySem PySem.Spec PyProof.Rows L2 PySem.W
end Sz
set_option Elab.async false
set_option linter.all false
set_option maxRecDepth 100000
set_option maxHeartbeats 4000000
namespace Sz
open PySem PySem.Spec PyProof.Rows L2
end Sz
set_option Elab.async false
set_option linter.all false
set_option maxRecDepth 100000
set_option maxHeartbeats 4000000
namespace L2
open PySem PySem.Spec PyProof.Rows
end L2
namespace Sz
open PySem PySem.Spec PyProof.Rows L2
end Sz
set_option Elab.async false
set_option linter.all false
set_option maxRecDepth 100000
set_option maxHeartbeats 4000000
namespace Sz
open PySem PySem.Spec PyProof.Rows L2 PySem.W
end Sz
set_option Elab.async false
set_option linter.all false
set_option maxRecDepth 100000
set_option maxHeartbeats 4000000
namespace PySem.W
open PySem PySem.Calls PyProof.Rows PyProof.V PySem.Spec
end PySem.W
set_option Elab.async false
set_option linter.all false
set_option maxRecDepth 100000
set_option maxHeartbeats 4000000
namespace Sz
open PySem PySem.Spec PyProof.Rows L2
/-- all but dicts -/
def SameD (F F' : Hp) : Prop := ∀ p u, F p = some u → (∀ o ws, u ≠ .frz o (.dK ws)) → F' p = some u
section
variable {g : G} {F F' : Hp}
theorem SameD.tup {K : PySem.W.Frag} {a : Addr} {xs : List V} (e : SameD F F') (h : SqT K F a xs) : SqT K F' a xs := by
  rcases h with (h | ⟨o, h⟩) | h
  · exact .inl (.inl (e _ _ h fun _ _ z => by cases z))
  · exact .inl (.inr ⟨o, e _ _ h fun _ _ z => by cases z⟩)
  · exact .inr h
theorem SameD.lst {K : PySem.W.Frag} {a : Addr} {xs : List V} (e : SameD F F') (h : SqL K F a xs) : SqL K F' a xs := by
  rcases h with (h | ⟨o, h⟩) | h
  · exact .inl (.inl (e _ _ h fun _ _ z => by cases z))
  · exact .inl (.inr ⟨o, e _ _ h fun _ _ z => by cases z⟩)
  · exact .inr h
end
end Sz
set_option Elab.async false
set_option linter.all false
set_option maxRecDepth 100000
set_option maxHeartbeats 4000000
namespace Sz
open PySem PySem.Spec PyProof.Rows L2
end Sz
set_option Elab.async false
set_option linter.all false
set_option maxRecDepth 100000
set_option maxHeartbeats 4000000
namespace Sz
open PySem PySem.Spec PyProof.Rows L2
end Sz
set_option Elab.async false
set_option linter.all false
set_option maxRecDepth 100000
set_option maxHeartbeats 4000000
namespace Sz
open PySem PySem.Spec PyProof.Rows L2
end Sz
set_option Elab.async false
set_option linter.all false
set_option maxRecDepth 100000
set_option maxHeartbeats 4000000
namespace Sz
open PySem PySem.Spec PyProof.Rows L2
end Sz
set_option Elab.async false
set_option linter.all false
set_option maxRecDepth 100000
set_option maxHeartbeats 4000000
namespace Sz
open PySem PySem.Spec PyProof.Rows L2
end Sz
set_option Elab.async false
set_option linter.all false
set_option maxRecDepth 100000
set_option maxHeartbeats 4000000
namespace Sz
open PySem PySem.Spec PyProof.Rows L2 PySem.W
end Sz
set_option Elab.async false
set_option linter.all false
set_option maxRecDepth 100000
set_option maxHeartbeats 4000000
namespace Sz
open PySem PySem.Spec PyProof.Rows L2
end Sz
set_option Elab.async false
set_option linter.all false
set_option maxRecDepth 100000
set_option maxHeartbeats 4000000
namespace Sz
open PySem PySem.Spec L2
def dMulR : D → D → Option S
  | .str a, .int k => if a.length = 1 ∧ 0 ≤ k ∧ k ≤ 1000000 then some (.val (.str (Txt.mul a k))) else none
  | x, y => dMul x y
section
variable {g : G} {X : Cx}
theorem mulOk_one {a : Str} {k : Int} (h1 : a.length = 1) (h2 : 0 ≤ k) (h3 : k ≤ 1000000) : MulOk a k := by
  refine ⟨?_, fun h _ q => ?_, fun h _ => ?_⟩
  · rw [decide_eq_false (by omega), decide_eq_false (by omega)]
    rfl
  · have hk : 0 < k := by omega
    rw [h1] at q
    have : (1 : Int) ≤ (2 ^ 63 - 1) / k := Int.le_ediv_of_mul_le hk (by omega)
    have q : ((1 : Nat) : Int) > (2 ^ 63 - 1) / k := q
    omega
  · rw [h1, Nat.one_mul]
    show decide (k.toNat > sizeLine) = false
    rw [decide_eq_false]
    rw [sizeLine_eq]
    omega
theorem ok_mulR : OpOk g X (binaryOp .Mult) dMulR := by
  intro x y s F as μ H v u Q e sr hx hy k
  unfold dMulR at e
  split at e
  · rename_i a i
    split at e
    · rename_i hz
      cases e
      intro pins st σ v' u' I rv ru
      cases vr_str hx
      cases vr_int hy
      obtain ⟨tk, rfl⟩ := (show ∃ tk, v' = .str a tk from rv)
      obtain ⟨tk2, rfl⟩ := (show ∃ tk, u' = .int i tk from ru)
      refine PySem.SB.mul (mulOk_one hz.1 hz.2.1 hz.2.2) fun t' kk => ?_
      exact ⟨.str (Txt.mul a i), H, I.tok kk, ⟨t', rfl⟩, k F as _ H .refl sr (show Rep g F (.str _) _ by unfold Rep; rfl)⟩
    · cases e
  · exact ok_mul _ _ s F as μ H v u Q e sr hx hy k
end
theorem fold_rep {c : Nat} : ∀ (n : Nat) (acc : Array Nat), (List.replicate n #[c]).foldl (· ++ ·) acc = acc ++ (List.replicate n c).toArray
  | 0, acc => by simp
  | n + 1, acc => by
    rw [List.replicate_succ, List.foldl_cons, fold_rep n, List.replicate_succ]
    apply Array.ext'
    simp
theorem mul_rep {c n : Nat} : Txt.mul ⟨#[c]⟩ (n : Int) = ⟨(List.replicate n c).toArray⟩ := by
  unfold Txt.mul
  by_cases h0 : n = 0
  · subst h0
    rfl
  · rw [if_neg (by omega)]
    by_cases h1 : n = 1
    · subst h1
      rfl
    · have hl : ((⟨#[c]⟩ : Str).length == 0) = false := rfl
      rw [hl]
      have hn : ((n : Int) == 1) = false := by
        rw [beq_eq_false_iff_ne]
        omega
      rw [hn]
      rw [if_neg (by decide)]
      congr 1
      rw [Int.toNat_natCast, fold_rep]
      simp
theorem mulR_rep {c n : Nat} (h : n ≤ 1000000) : dMulR (.str ⟨#[c]⟩) (.int (n : Int)) = some (.val (.str ⟨(List.replicate n c).toArray⟩)) := by
  rw [← mul_rep]
  exact if_pos ⟨rfl, by omega, by omega⟩
end Sz
set_option Elab.async false
set_option linter.all false
set_option maxRecDepth 100000
set_option maxHeartbeats 4000000
namespace Sz
open PySem PySem.Spec PyProof.Rows L2
structure TEk (g : G) (W : WX) (t : TE) (m : ME) : Prop where
  run : ∀ (F : Hp) (as : List Addr) (ρ : En) (μ : Sto) (σ : L2.St) (H : Hp) (Q : VK) (r : Except Ex S) (μ' : Sto), m ρ μ = some (r, μ') → SR g F as μ H → ER g F as ρ σ → PostE g W F as σ Q r μ' → t σ H Q
structure TAk (g : G) (W : WX) (t : TA) (m : MA) : Prop where
  run : ∀ (F : Hp) (as : List Addr) (ρ : En) (μ : Sto) (σ : L2.St) (H : Hp) (Q : List V → Hp → Prop) (r : Except Ex (List S)) (μ' : Sto), m ρ μ = some (r, μ') → SR g F as μ H → ER g F as ρ σ → PostA g W F as σ Q r μ' → t σ H Q
section
variable {g : G} {W : WX} {t : TE} {m : ME} {F : Hp} {as : List Addr} {ρ : En} {μ : Sto} {σ : L2.St} {H : Hp} {β : Type}
theorem TEk.then_ {Q : VK} {f : S → Sto → Option (Except Ex β × Sto)} {r : Except Ex β} {μ' : Sto} (he : TEk g W t m) (h : andThen (m ρ μ) f = some (r, μ')) (sr : SR g F as μ H) (er : ER g F as ρ σ)
    (hx : ∀ x, r = .error x → PErr g W F as σ x μ')
    (k : ∀ s μ1 F1 as1 v H1, f s μ1 = some (r, μ') → Ext F as F1 as1 → SR g F1 as1 μ1 H1 → ER g F1 as1 ρ σ → RA g F1 as1 H1 s v → Q v H1) : t σ H Q := by
  rcases andThen_some h with ⟨x, h1, h2⟩ | ⟨s, μ1, h1, h2⟩
  · exact he.run F as ρ μ σ H Q (.error x) μ' h1 sr er (hx x h2)
  · exact he.run F as ρ μ σ H Q (.ok s) μ1 h1 sr er fun F' as' v H' e' r' q => k s μ1 F' as' v H' h2 e' r' (er.mono e') q
theorem TAk.then_ {t : TA} {m : MA} {Q : List V → Hp → Prop} {f : List S → Sto → Option (Except Ex β × Sto)} {r : Except Ex β} {μ' : Sto} (he : TAk g W t m) (h : andThen (m ρ μ) f = some (r, μ')) (sr : SR g F as μ H) (er : ER g F as ρ σ)
    (hx : ∀ x, r = .error x → PErr g W F as σ x μ')
    (k : ∀ ss μ1 F1 as1 vs H1, f ss μ1 = some (r, μ') → Ext F as F1 as1 → SR g F1 as1 μ1 H1 → ER g F1 as1 ρ σ → RSs g F1 as1 ss vs → Q vs H1) : t σ H Q := by
  rcases andThen_some h with ⟨x, h1, h2⟩ | ⟨s, μ1, h1, h2⟩
  · exact he.run F as ρ μ σ H Q (.error x) μ' h1 sr er (hx x h2)
  · exact he.run F as ρ μ σ H Q (.ok s) μ1 h1 sr er fun F' as' v H' e' r' q => k s μ1 F' as' v H' h2 e' r' (er.mono e') q
end
def SET (g : G) (X : Cx) (W : WX) (e : Expr) (m : ME) : Prop := ∃ t, PET X e t ∧ TEk g W t m
def SAT (g : G) (X : Cx) (W : WX) (es : List Expr) (m : MA) : Prop := ∃ t, PAT X es t ∧ TAk g W t m
def SBT (g : G) (X : Cx) (W : WX) (sts : List Stmt) (m : MS) : Prop := ∃ t : TS, PSsT X sts t ∧
  ∀ (F : Hp) (as : List Addr) (ρ : En) (μ : Sto) (σ : L2.St) (H : Hp) (D : Ends) (fl : Fl) (ρ' : En) (μ' : Sto), m ρ μ = some (fl, ρ', μ') → SR g F as μ H → ER g F as ρ σ → PostS g W F as D fl ρ' μ' → t D σ H
def dRepl (y z : Str) : D → Option S
  | .str x => if x.length + (x.length + 1) * z.length ≤ 16777216 then some (.val (.str (Txt.replace x y z))) else none
  | _ => none
def mRepl (y z : Str) (m : ME) : ME := fun ρ μ => andThen (m ρ μ) fun s μ1 => match s with
  | .val d => (match dRepl y z d with
    | some s => some (.ok s, μ1)
    | none => none)
  | _ => none
section
variable {g : G} {X : Cx} {W : WX} {e a b o : Expr} {es : List Expr} {m ma mb mo : ME} {ms : List ME} {dop : D → D → Option S} {pos : Pos} {st : Stmt} {sts : List Stmt} {cs cb : MS}
theorem SE.tk (h : SE g X W e m) : SET g X W e m := ⟨wpE X e, CwR.PET.of pe_wp, ⟨h.run⟩⟩
theorem tok_repl {y z : Str} {j k : Nat} {c0 c1 apos : Pos} (ho : SE g X W o mo) (hyz : (y == z) = false)
    (hbase : attributeBase o "replace" X.env (eval o X.env) = eval o X.env := by rfl) (hline : (apos.endLine == pos.line) = true := by rfl) :
    SET g X W (.Call (.Attribute o "replace" apos) [.Constant (.str y) j c0, .Constant (.str z) k c1] [] pos) (mRepl y z mo) := by
  refine ⟨CwR.tReplC (wpE X o) y z, CwR.pet_replC pe_wp hyz rfl hbase hline, ⟨fun F as ρ μ σ H Q r μ' h sr er post => ?_⟩⟩
  refine ho.then_ (show andThen _ _ = some (r, μ') from h) sr er (fun x e => by subst e; exact post) fun s1 μ1 F1 as1 v1 H1 h1 x1 sr1 er1 ra1 => ?_
  unfold dRepl at h1
  split at h1
  · rename_i d
    split at h1
    · rename_i s hs
      split at hs
      · rename_i x
        split at hs
        · rename_i hz
          cases hs
          cases h1
          have e1 : Rep g F1 (.str x) v1 := ra1
          unfold Rep at e1
          subst e1
          exact ⟨x, rfl, hz, post F1 as1 _ H1 x1 sr1 (show Rep g F1 (.str _) _ by unfold Rep; rfl)⟩
        · cases hs
      · cases hs
    · cases h1
  · cases h1
theorem tok_bin {op : Operator} (ho : OpOk g X (binaryOp op) dop) (ha : SET g X W a ma) (hb : SET g X W b mb) : SET g X W (.BinOp a op b pos) (mOp2 dop ma mb) := by
  obtain ⟨ta, pa, ka⟩ := ha
  obtain ⟨tb, pb, kb⟩ := hb
  refine ⟨tOp (rcan X (binaryOp op)) ta tb, CwR.pet_op op_can pa pb, ⟨fun F as ρ μ σ H Q r μ' h sr er post => ?_⟩⟩
  refine ka.then_ h sr er (fun x e => by subst e; exact post) fun s1 μ1 F1 as1 v1 H1 h1 x1 sr1 er1 ra1 => ?_
  obtain ⟨F1', x1', sr1', rs1⟩ := root_ok sr1 ra1
  refine kb.then_ h1 sr1' (er1.mono x1') (fun x e => by subst e; exact PErr.ext (x1.trans x1') post) fun s2 μ2 F2 as2 v2 H2 h2 x2 sr2 er2 ra2 => ?_
  obtain ⟨x, y, s, e1, e2, e3, e4, e5⟩ := fin2_some h2
  subst e4 e5
  exact ho x y s F2 as2 μ' H2 v1 v2 Q e3 sr2 (view_rs sr2 (rs1.mono x2) e1) (view_ra sr2 ra2 e2) fun F' as' w H' e' r' q => post F' as' w H' ((x1.trans x1').trans (x2.trans e')) r' q
theorem toks_nil : SAT g X W [] (mArgs []) := ⟨tNil, pat_nil, ⟨fun F as ρ μ σ H Q r μ' h sr er post => by
  cases h
  exact post F as [] H .refl sr .nil⟩⟩
theorem toks_cons (hn : notStar e = true) (h1 : SET g X W e m) (h2 : SAT g X W es (mArgs ms)) : SAT g X W (e :: es) (mArgs (m :: ms)) := by
  obtain ⟨ta, pa, ka⟩ := h1
  obtain ⟨tb, pb, kb⟩ := h2
  refine ⟨tCons ta tb, pat_cons pa pb (starEach_cons hn), ⟨fun F as ρ μ σ H Q r μ' h sr er post => ?_⟩⟩
  refine ka.then_ (show andThen _ _ = some (r, μ') from h) sr er (fun x e => by subst e; exact post) fun s1 μ1 F1 as1 v1 H1 h3 x1 sr1 er1 ra1 => ?_
  obtain ⟨F1', x1', sr1', rs1⟩ := root_ok sr1 ra1
  refine kb.then_ h3 sr1' (er1.mono x1') (fun x e => by subst e; exact PErr.ext (x1.trans x1') post) fun ss μ2 F2 as2 vs H2 h4 x2 sr2 er2 rs2 => ?_
  cases h4
  exact post F2 as2 _ H2 ((x1.trans x1').trans x2) sr2 (.cons (rs1.mono x2) rs2)
theorem tok_lst (ha : SAT g X W es (mArgs ms)) : SET g X W (.List es pos) (mList ms) := by
  obtain ⟨ta, pa, ka⟩ := ha
  refine ⟨tLst ta, pet_lst pa, ⟨fun F as ρ μ σ H Q r μ' h sr er post => ?_⟩⟩
  refine ka.then_ (show andThen _ _ = some (r, μ') from h) sr er (fun x e => by subst e; exact post) fun ss μ1 F1 as1 vs H1 h1 x1 sr1 er1 rs1 => ?_
  unfold finL at h1
  split at h1
  · rename_i ds μ2 hd
    split at h1
    · rename_i hz
      cases h1
      obtain ⟨F2, x2, sr2, r2⟩ := toDs_rs sr1 rs1 hd
      refine ⟨by rw [r2.length]; exact hz, fun p hp => ?_⟩
      obtain ⟨sr3, f, n⟩ := sr2.loose (o := .lst vs) hp
      exact post F2 as1 _ _ (x1.trans x2) sr3 (ra_lst upd_same f n r2)
    · cases h1
  · cases h1
/-- a list's item, one token out -/
theorem pet_ix {r : R2} {ta tb : TE} (hr : IxR X r) (ha : PET X a ta) (hb : PET X b tb) (hs : PlainIx b) : PET X (.Subscript a b pos) (tOp r ta tb) := by
  intro pins s σ H Q h0 I h
  refine Subscript_ (wpAny_mono (PySem.wpAny_toks (ha pins s σ H _ h0 I h)) (fun v s1 q => ?_) fun _ _ z => z.2)
  obtain ⟨hk, x, H1, I1, r1, q1⟩ := q
  exact thn (hb pins s1 σ H1 _ (Nat.le_trans h0 hk) I1 q1) fun u s2 ⟨y, H2, I2, r2, q2⟩ => hr a b pins s2 σ H2 x y v u Q I2 r1 r2 q2 (hs _ _)
def dIxV : D → D → Option S
  | .lst ds, .int i => (atI ds i).map S.val
  | _, _ => none
theorem tok_ix (hg : g.K = X.K) (ha : SET g X W a ma) (hb : SET g X W b mb) (hs : notSlice b = true) : SET g X W (.Subscript a b pos) (mOp2 dIxV ma mb) := by
  obtain ⟨ta, pa, ka⟩ := ha
  obtain ⟨tb, pb, kb⟩ := hb
  refine ⟨tOp _ ta tb, pet_ix ix_seq pa pb (plainIx hs), ⟨fun F as ρ μ σ H Q r μ' h sr er post => ?_⟩⟩
  refine ka.then_ (show andThen _ _ = some (r, μ') from h) sr er (fun x e => by subst e; exact post) fun s1 μ1 F1 as1 v1 H1 h1 x1 sr1 er1 ra1 => ?_
  obtain ⟨F1', x1', sr1', rs1⟩ := root_ok sr1 ra1
  refine kb.then_ h1 sr1' (er1.mono x1') (fun x e => by subst e; exact PErr.ext (x1.trans x1') post) fun s2 μ2 F2 as2 v2 H2 h2 x2 sr2 er2 ra2 => ?_
  obtain ⟨x, y, s, e1, e2, e3, e4, e5⟩ := fin2_some h2
  subst e4 e5
  have hx := view_rs sr2 (rs1.mono x2) e1
  have hy := view_ra sr2 ra2 e2
  have fin : ∀ w, RA g F2 as2 H2 s w → Q w H2 := fun w q => post F2 as2 w H2 ((x1.trans x1').trans x2) sr2 q
  unfold dIxV at e3
  split at e3
  · obtain ⟨d, e6, rfl⟩ := Option.map_eq_some_iff.mp e3
    obtain ⟨p, vs, rfl, h3, h4⟩ := vr_lst sr2 hx
    cases vr_int hy
    obtain ⟨w, h5, h6⟩ := atI_reps h4 e6
    exact .inl ⟨p, vs, _, w, rfl, rfl, SqL.of h3, h5, fin w h6⟩
  · cases e3
theorem toks_st (h1 : SS g X W st cs) (h2 : SBT g X W sts cb) : SBT g X W (st :: sts) (sSeq cs cb) := by
  obtain ⟨tb, pb, kb⟩ := h2
  refine ⟨tSeq (wpS X st) tb, psst_cons (PST.of ps_wp) pb, fun F as ρ μ σ H D fl ρ' μ' h sr er post => ?_⟩
  show wpS X st { D with nx := tb D } σ H
  unfold sSeq at h
  split at h
  · rename_i ρ1 μ1 h3
    exact h1.run F as ρ μ σ H _ .nx ρ1 μ1 h3 sr er fun F' as' σ' H' e sr' er' => kb F' as' ρ1 μ1 σ' H' D fl ρ' μ' h sr' er' (post.ext e)
  · rename_i hne
    refine h1.run F as ρ μ σ H _ fl ρ' μ' h sr er ?_
    cases fl with
    | nx => exact absurd h (hne _ _)
    | bk => exact post
    | ct => exact post
    | rt s => exact post
    | ex x => exact post
theorem toks_ret (he : SET g X W e m) : SBT g X W [.Return (some e) pos] (sSeq (sRet m) sNil) := by
  obtain ⟨t, p, k⟩ := he
  refine ⟨tSeq (tRet t) tNext, CwR.psst_one (CwR.pst_ret p), fun F as ρ μ σ H D fl ρ' μ' h sr er post => ?_⟩
  show t σ H D.rt
  have h : (match exThen (m ρ μ) ρ fun s μ1 => some (.rt s, ρ, μ1) with
    | some (.nx, ρ1, μ1) => sNil ρ1 μ1
    | r => r) = some (fl, ρ', μ') := h
  cases e : m ρ μ with
  | none => rw [e] at h; cases h
  | some q =>
    obtain ⟨r, μ1⟩ := q
    rw [e] at h
    cases r with
    | ok s =>
      cases h
      exact k.run F as _ μ σ H _ (.ok s) _ e sr er post
    | error x =>
      cases h
      exact k.run F as _ μ σ H _ (.error x) _ e sr er (post.err er)
end
section
variable {gb : Bool} {g : G} {P : Program} {w : World} {mg : Str → Option Value} {base : Heap} {k : Nat} {N ps : List Str} {x qual : Str} {params : Arguments} {body : List Stmt} {scope : Scope} {dvs : List V} {kws : List (Str × V)} {f : Addr} {fd : FuncData} {code : MS}
theorem by_bodyT {K : PySem.W.Frag} {cx : CXT} {sp : Sp}
    (F : FunD K x qual params body scope dvs kws f fd) (S : FnScope N ps scope) (hnc : ∀ y ∈ scope.names, y.2 ≠ .cell) (hps : 1 ≤ ps.length) (wide : ∀ vs H Q E, sp vs H Q E → vs.length = ps.length)
    (run : ∀ (cdv : Value), CodeAt K f qual cdv → ∀ (A : Around) (outer : List Env) (s : Shared) (H : Hp) (vs : List V) (Q : VK) (E : XK), Room k (A.deeper (PyProof.Rows.envOfC qual scope s.heap.objs.size f cdv)) → (gb = true → A.guards = some []) → sp vs H Q E →
      ∃ t, PSsT (cxOf cx P w K mg base N qual scope f cdv A outer s H E) body t ∧ t { nx := fun _ H' => Q .non H', rt := Q } (start N vs) H) : FnG gb P w K mg base cx (k + 1) f fd ps sp := by
  obtain ⟨tv, dk, dfv, kwv, dc, pmv, an, cdv, ctv, slots, rfl, found, codeAt, _, _⟩ := F.ex
  refine ⟨wide, fun A fr st H ar us vs Q E room gds en bd rv ask => ?_⟩
  have inHeap : K.In st.heap := en.mod.kin.keeps fun b o q => (en.bs b o q).1
  have noLim : st.heap.NoLimit := en.mod.nolimit.keeps fun b o q => (en.bs b o q).1
  have hl := wide _ _ _ _ ask
  have hul : us.length = ps.length := by rw [← rv.length, hl]
  have hloc : ∀ y ∈ ps.zip us, scope.names.lookup y.1 = some .local := fun ⟨n, v⟩ hy => by
    rcases S.par n (List.of_mem_zip hy).1 with q | q
    · exact q
    · exact absurd rfl (hnc _ (PySem.mem_of_lookup q))
  refine codeAny_call_function room.depth (inHeap _ _ found) rfl S.co S.gen rfl (PySem.W.codeRec_of inHeap codeAt) (bd _ _ _ _ ?_)
  refine wpAny_newFunctionEnv hnc hloc (fun h1 hns hsb => ?_) S.kind
  have hz : (ps.zip us).length = ps.length := by rw [List.length_zip, hul, Nat.min_self]
  have keep : ∀ b o, st.heap.get? b = some o → h1.get? b = some o := fun b o e => hsb.extBut b o (Nat.ne_of_lt (Heap.lt_size e)) (Heap.get?_push_of_some _ e)
  have hcl : cellsFrom (st.heap.objs.size + 1) scope.names [] = [] := cells_none _ _ _ hnc
  have hkl : ∀ y ∈ ps.zip us, (envOfC qual scope st.heap.objs.size f cdv).kindOf y.1 = some .local := fun y hy => by
    first
    | exact hloc y hy
    | (simp only [Env.kindOf]; exact hloc y hy)
    | (unfold Env.kindOf; rw [if_pos S.kind]; exact hloc y hy)
    | simpa [Env.kindOf, envOfC, newEnv, S.kind] using hloc y hy
  have hm : (bindL (envOfC qual scope st.heap.objs.size f cdv).kindOf (ps.zip us) fun _ => none) = fun x => (ps.zip us).reverse.lookup x := by
    funext y
    rw [bindL_loc _ _ hkl y]
    cases (ps.zip us).reverse.lookup y <;> rfl
  have xx : InCallC st st.heap.objs.size (bindL (envOfC qual scope st.heap.objs.size f cdv).kindOf (ps.zip us) fun _ => none) (cellsFrom (st.heap.objs.size + 1) scope.names [])
      (bindC (envOfC qual scope st.heap.objs.size f cdv).kindOf (ps.zip us) fun _ => none) ({ st with heap := h1, toks := st.toks + (ps.zip us).length } : Shared) := by
    rw [hm, hcl]
    exact ⟨⟨⟨_, _, rfl⟩, hns, keep, Nat.le_refl _⟩, fun n c hc => absurd hc (by simp), .nil, fun n c hc => absurd hc (by simp)⟩
  have henv : newEnv scope st.heap.objs.size mainGlobals [] (qual ++ ".<locals>.") (some f) cdv none builtinsNs = envOfC qual scope st.heap.objs.size f cdv := by
    unfold envOfC
    rw [hcl] <;> rfl
  have hto : 1 ≤ ({ st with heap := h1, toks := st.toks + (ps.zip us).length } : Shared).toks := by
    show 1 ≤ st.toks + (ps.zip us).length
    omega
  show ({ st with heap := h1, toks := st.toks + (ps.zip us).length } : Shared).heap.NoLimit ∧ codeAny (model P w) A (.func body (newEnv scope st.heap.objs.size mainGlobals [] (qual ++ ".<locals>.") (some f) cdv none builtinsNs)) _ ({ st with heap := h1, toks := st.toks + (ps.zip us).length } : Shared)
  rw [henv]
  generalize ({ st with heap := h1, toks := st.toks + (ps.zip us).length } : Shared) = s1 at xx hto ⊢
  refine ⟨noLim.keeps xx.toInCall.keep, codeAny_func ?_⟩
  obtain ⟨t, steps, goal⟩ := run cdv ⟨_, _, _, _, found, rfl, codeAt⟩ A fr st H vs Q E (room.deeper _) gds ask
  have I0 := inv_start (CX := cx) (E := E) (cd := cdv) S room.hd en (wide _ _ _ _ ask) rv xx
  refine wpAny_mono (steps [] s1 (start N vs) H _ hto I0 goal) (fun fl s' told => ?_) fun _ _ told => told
  cases fl with
  | next =>
    obtain ⟨σ', H', J, q⟩ := told
    exact ⟨V.non, H', J.os, J.bare, J.base, J.hok, (rfl : RelV V.non Value.none), q⟩
  | ret u =>
    obtain ⟨v, σ', H', J, rv', q⟩ := told
    exact ⟨v, H', J.os, J.bare, J.base, J.hok, rv', q⟩
  | brk => exact (told.elim fun _ z => z.elim fun _ z => z.2.elim)
  | cont => exact (told.elim fun _ z => z.elim fun _ z => z.2.elim)
theorem fn_okT (F : FunD g.K x qual params body scope dvs kws f fd) (S : FnScope N ps scope) (hnc : ∀ y ∈ scope.names, y.2 ≠ .cell) (hps : 1 ≤ ps.length) (hb : ∀ X W, Ct g P w mg base k N scope true true gb X W → SBT g X W body code) :
    FnG gb P w g.K mg base (CX P w) (k + 1) f fd ps (spOf g ps.length (fnSem N.length code)) := by
  refine by_bodyT F S hnc hps (fun vs H Q E h => h.1) fun cdv hcd A outer s H vs Q E hr hgd hsp => ?_
  have c : Ct g P w mg base k N scope true true gb (cxOf (CX P w) P w g.K mg base N qual scope f cdv A outer s H E) (fun cls d _ H => E cls d H) :=
    ⟨rfl, rfl, rfl, rfl, rfl, rfl, S.nd, S.kind, rfl, fun _ => rfl, hgd, fun _ => hr, Nat.lt_of_le_of_lt (Nat.add_le_add_right (Nat.le_add_right _ _) 200) hr.un, fun _ => rfl, fun _ => rfl, takes_of rfl rfl rfl rfl, fun _ _ => rfl, fun _ _ => passes_of rfl, fun _ => rfl⟩
  obtain ⟨t, p, kk⟩ := hb _ _ c
  exact ⟨t, p, fn_core hsp kk⟩
theorem FnC.ofT {dfl : List D} {sh : List (Nat × List Str)} (hnc : ∀ y ∈ scope.names, y.2 ≠ .cell) (hps : 1 ≤ ps.length) (h : ∃ fd, FunD g.K x qual params body scope ((dfl.map dvOf).map (He.Dv.v g.K)) [] f fd) (hd : dfl.all dvOk = true) (S : FnScope N ps scope) (hb : ∀ X W, Ct g P w mg base k N scope true true gb X W → SBT g X W body code)
    (hB : ∀ fd, FunD g.K x qual params body scope ((dfl.map dvOf).map (He.Dv.v g.K)) [] f fd → BndAll g.K fd ps ((dfl.map dvOf).map (He.Dv.v g.K)) sh) : FnC gb g P w mg base ⟨ps, dfl, fnSem N.length code⟩ (k + 1) f sh := by
  obtain ⟨fd, F⟩ := h
  exact ⟨fd, _, fn_okT F S hnc hps hb, (hB fd F).get, fun _ => dvs_rep hd⟩
end
/-- what a def does, taken off its record -/
theorem sem_of {fi : FnI} {ps : List Str} {ds : List D} {sm : List S → Sto → Option R} (h : fi = ⟨ps, ds, sm⟩) : fi.sem = sm := by
  subst h
  rfl
end Sz
set_option linter.all false
set_option maxRecDepth 100000
namespace Sz
open PySem PySem.Spec L2
def ev := And.intro @mVar_ap (And.intro @slotM_some (And.intro @mK_ap (And.intro @andThen_ok (And.intro @andThen_if (And.intro @exThen_ok (And.intro @exThen_if (And.intro @vw_val (And.intro @vw_fr (And.intro @vw_cell (And.intro @cellV_lst (And.intro @cellV_frz (And.intro @rt_val (And.intro @rt_fr (And.intro @rt_cell (And.intro @fin2_ap (And.intro @fin2K_some (And.intro @opK_some (And.intro @fin1_ap (And.intro @op1K_some (And.intro @mOp2_ap (And.intro @mOp1_ap (And.intro @add_ii (And.intro @sub_ii (And.intro @not_b (And.intro @lt_ii (And.intro @le_ii (And.intro @gt_ii (And.intro @ge_ii (And.intro @eq_ii (And.intro @ne_ii (And.intro @ix_lst (And.intro @Sz.ix_tup (And.intro @ix_scr (And.intro @omap_some (And.intro @atI0 (And.intro @atI1 (And.intro @atI2 (And.intro @bl?_bl (And.intro @tBl_ap (And.intro @tBlK_some (And.intro @tNotM_ap (And.intro @tAndM_ap (And.intro @tOrM_ap (And.intro @tTrue_ap (And.intro @mIf_ap (And.intro @mAnd_ap (And.intro @andK_some (And.intro @mArgs_nil (And.intro @mArgs_cons (And.intro @mOwns_nil (And.intro @mOwns_cons (And.intro @mList_ap (And.intro @mTup_ap (And.intro @mCallB_ap (And.intro @finL1 (And.intro @finL2 (And.intro @finL3 (And.intro @finL4 (And.intro @finL5 (And.intro @finL6 (And.intro @finL7 (And.intro @finL8 (And.intro @finL9 (And.intro @finL10 (And.intro @finL11 (And.intro @finL12 (And.intro @finL13 (And.intro @finL14 (And.intro @finL15 (And.intro @finL16 (And.intro @finT1 (And.intro @finT2 (And.intro @finT3 (And.intro @finT4 (And.intro @finT5 (And.intro @finT6 (And.intro @finT7 (And.intro @finT8 (And.intro @vwK_some (And.intro @vws_nil (And.intro @vws_cons (And.intro @opsK_some (And.intro @finB_ap (And.intro @len_scr (And.intro @len_lst (And.intro @len_tup (And.intro @abs_i (And.intro @min_ii (And.intro @int_b (And.intro @int_i (And.intro @seqK_nx (And.intro @seqK_rt (And.intro @seqK_ex (And.intro @seqK_bk (And.intro @seqK_ct (And.intro @seqK_if (And.intro @sSeq_ap (And.intro @sNil_ap (And.intro @sRet_ap (And.intro @sIf_ap (And.intro @sExpr_ap (And.intro @nxK_some (And.intro @sAsg_ap (And.intro @gNm_ap (And.intro @own_false (And.intro @own_val (And.intro @own_cell (And.intro @own_fr (And.intro @sPar2_ap (And.intro @par2K_ap (And.intro @gVals_nil (And.intro @gVK_some (And.intro @gVals_cons (And.intro @gTu_tup (And.intro @gTu_lst (And.intro @gTu_fr (And.intro @finF_nx (And.intro @finF_ex (And.intro @finF_rt (And.intro @finR_val (And.intro @finR_fr (And.intro @finF_if (And.intro @mCallF_ap (And.intro @mMake_ap (And.intro @mAttr_ap (And.intro @finA_obj (And.intro @ite_true' (And.intro @ite_false' (And.intro @ite_T (And.intro @ite_F (And.intro @sFor_ap (And.intro @iVal_ap (And.intro @finI_lst (And.intro @finI_fr (And.intro @finI_tup (And.intro @get_end (And.intro @set_end (And.intro @is_non (And.intro @isnot_non (And.intro @isNon_non (And.intro @isNon_int (And.intro @isNon_tup (And.intro @isNon_obj (And.intro @eq_bb (And.intro @mSl_ap (And.intro @oNone_ap (And.intro @oSome_ap (And.intro @intK_some (And.intro @slK_some (And.intro @slK2_some (And.intro @mChain_ap (And.intro @chK_some (And.intro @mSm1_ap (And.intro @sm1K_str (And.intro @andThen_err (And.intro @exThen_err (And.intro @sTry_ap (And.intro @tryK_nx (And.intro @tryK_rt (And.intro @tryK_ex (And.intro @exSel_nil (And.intro @exSel_cons (And.intro @exSelK_t (And.intro @exSelK_f (And.intro @tryX_cl (And.intro @tryX_out (And.intro @clFin_nx (And.intro @clFin_rt (And.intro @putE_some (And.intro @putE_non (And.intro @sRaise_ap (And.intro @finM_err (And.intro @mDicK_ap (And.intro @own_pot (@toD_v)))))))))))))))))))))))))))))))))))))))))))))))))))))))))))))))))))))))))))))))))))))))))))))))))))))))))))))))))))))))))))))))))))))))))))))))))))))))))))))))))))))))))))))))
end Sz
set_option Elab.async false
set_option linter.all false
set_option maxRecDepth 100000
set_option maxHeartbeats 4000000
namespace Law
open PySem PySem.Spec L2 Sz
noncomputable def c_l_figures : MS := sSeq (sIf (tOrM (tNotM (tBl (mChain dLe dLe (mK (.int 1)) (mCallB bLen [mVar 0]) (mK (.int 12))))) (tBl (mOp2 dNe (mComp (iVal (mVar 0)) (gNm 1 false) (tBl (mOp2 dNotIn (mVar 1) (mK (.str "0123456789")))) (mVar 1) [1]) (mList [])))) (sSeq (sRet (mK .non)) sNil) sNil) (sSeq (sRet (mIf (tOrM (tBl (mOp2 dEq (mVar 0) (mK (.str "0")))) (tBl (mOp2 dNe (mOp2 dIx (mVar 0) (mK (.int 0))) (mK (.str "0"))))) (mCallB bInt [mVar 0]) (mK .non))) sNil)
noncomputable def fi_l_figures : FnI := ⟨["_law_word"], ([] : List D), fnSem 2 c_l_figures⟩
noncomputable def c_l_common_b1 : MS := sSeq (sPar2 0 1 [(false, mVar 1), (false, mOp2 dMod (mVar 0) (mVar 1))]) sNil
noncomputable def c_l_common : MS := sSeq (sWhile (tBl (mOp2 dGt (mVar 1) (mK (.int 0)))) c_l_common_b1) (sSeq (sRet (mVar 0)) sNil)
noncomputable def fi_l_common : FnI := ⟨["_law_big", "_law_low"], ([] : List D), fnSem 2 c_l_common⟩
noncomputable def c_l_read : MS := sSeq (sAsg (gNm 1 false) (mOp2 dEq (mSl (mVar 0) oNone (oSome (mK (.int 1)))) (mK (.str "-")))) (sSeq (sAsg (gNm 2 false) (mIf (tBl (mVar 1)) (mSl (mVar 0) (oSome (mK (.int 1))) oNone) (mVar 0))) (sSeq (sAsg (gTu [gNm 3 false, gNm 4 false, gNm 5 false]) (mSm1 dRPart (mVar 2) (mK (.str " ")))) (sSeq (sIf (tBl (mOp2 dNotIn (mK (.str "/")) (mVar 2))) (sSeq (sAsg (gNm 6 false) (mCallF fi_l_figures 1 [] [mVar 2] [])) (sSeq (sRet (mIf (tOrM (tBl (mOp2 dIs (mVar 6) (mK .non))) (tAndM (tBl (mVar 1)) (tBl (mOp2 dEq (mVar 6) (mK (.int 0)))))) (mK .non) (mTup [mOp2 dMul (mVar 6) (mOp2 dSub (mK (.int 1)) (mOp2 dMul (mK (.int 2)) (mCallB bInt [mVar 1]))), mK (.int 1)]))) sNil)) sNil) (sSeq (sAsg (gTu [gNm 7 false, gNm 8 false]) (mComp (iVal (mTup [mOp2 dIx (mSm1 dPart (mVar 5) (mK (.str "/"))) (mK (.int 0)), mOp2 dIx (mSm1 dPart (mVar 5) (mK (.str "/"))) (mK (.int 2))])) (gNm 9 false) tTrue (mCallF fi_l_figures 1 [] [mVar 9] []) [9])) (sSeq (sAsg (gNm 6 false) (mIf (tBl (mOp2 dNe (mVar 4) (mK (.str "")))) (mCallF fi_l_figures 1 [] [mVar 3] []) (mK (.int 0)))) (sSeq (sIf (tOrM (tBl (mOp2 dIs (mVar 7) (mK .non))) (tOrM (tBl (mOp2 dIs (mVar 8) (mK .non))) (tOrM (tBl (mOp2 dIs (mVar 6) (mK .non))) (tAndM (tBl (mOp2 dNe (mVar 4) (mK (.str "")))) (tBl (mOp2 dEq (mVar 6) (mK (.int 0)))))))) (sSeq (sRet (mK .non)) sNil) sNil) (sSeq (sIf (tOrM (tNotM (tBl (mChain dLt dLt (mK (.int 0)) (mVar 7) (mVar 8)))) (tBl (mOp2 dNe (mCallF fi_l_common 2 [] [mVar 7, mVar 8] []) (mK (.int 1))))) (sSeq (sRet (mK .non)) sNil) sNil) (sSeq (sRet (mTup [mOp2 dMul (mOp2 dAdd (mOp2 dMul (mVar 6) (mVar 8)) (mVar 7)) (mOp2 dSub (mK (.int 1)) (mOp2 dMul (mK (.int 2)) (mCallB bInt [mVar 1]))), mVar 8])) sNil))))))))
noncomputable def fi_l_read : FnI := ⟨["_law_line"], ([] : List D), fnSem 10 c_l_read⟩
noncomputable def c_figures_in : MS := sSeq (sIf (tOrM (tNotM (tBl (mChain dLe dLe (mK (.int 1)) (mCallB bLen [mVar 0]) (mK (.int 12))))) (tNotM (tBl (mCallB bAll [mComp (iVal (mVar 0)) (gNm 1 false) tTrue (mOp2 dIn (mVar 1) (mK (.str "0123456789"))) [1]])))) (sSeq (sRet (mK .non)) sNil) sNil) (sSeq (sRet (mCallB bInt [mVar 0])) sNil)
noncomputable def fi_figures_in : FnI := ⟨["text"], ([] : List D), fnSem 2 c_figures_in⟩
noncomputable def c_part_in : MS := sSeq (sAsg (gTu [gNm 1 false, gNm 2 false, gNm 3 false]) (mSm1 dPart (mVar 0) (mK (.str "/")))) (sSeq (sAsg (gNm 4 false) (mTup [mCallF fi_figures_in 1 [] [mVar 1] [], mCallF fi_figures_in 1 [] [mVar 3] []])) (sSeq (sIf (tOrM (tBl (mOp2 dEq (mVar 2) (mK (.str "")))) (tOrM (tBl (mOp2 dIn (mK .non) (mVar 4))) (tBl (mOp2 dEq (mOp2 dIx (mVar 4) (mK (.int 1))) (mK (.int 0)))))) (sSeq (sRet (mK .non)) sNil) sNil) (sSeq (sRet (mVar 4)) sNil)))
noncomputable def fi_part_in : FnI := ⟨["text"], ([] : List D), fnSem 5 c_part_in⟩
noncomputable def c_written_in : MS := sSeq (sIf (tBl (mOp2 dNotIn (mK (.str "/")) (mVar 0))) (sSeq (sAsg (gNm 1 false) (mCallF fi_figures_in 1 [] [mVar 0] [])) (sSeq (sRet (mIf (tBl (mOp2 dIs (mVar 1) (mK .non))) (mK .non) (mTup [mVar 1, mK (.int 1)]))) sNil)) sNil) (sSeq (sAsg (gTu [gNm 2 false, gNm 3 false, gNm 4 false]) (mSm1 dRPart (mVar 0) (mK (.str " ")))) (sSeq (sAsg (gNm 5 false) (mCallF fi_part_in 1 [] [mVar 4] [])) (sSeq (sAsg (gNm 1 false) (mIf (tBl (mOp2 dEq (mVar 3) (mK (.str "")))) (mK (.int 0)) (mCallF fi_figures_in 1 [] [mVar 2] []))) (sSeq (sIf (tOrM (tBl (mOp2 dIs (mVar 5) (mK .non))) (tBl (mOp2 dIs (mVar 1) (mK .non)))) (sSeq (sRet (mK .non)) sNil) sNil) (sSeq (sRet (mTup [mOp2 dAdd (mOp2 dMul (mVar 1) (mOp2 dIx (mVar 5) (mK (.int 1)))) (mOp2 dIx (mVar 5) (mK (.int 0))), mOp2 dIx (mVar 5) (mK (.int 1))])) sNil)))))
noncomputable def fi_written_in : FnI := ⟨["text"], ([] : List D), fnSem 6 c_written_in⟩
noncomputable def c_is_whole : MS := sSeq (sRet (mAnd (mCallB (bIsi nKit nKit subK) [mVar 0, mK (.ty "int")]) (mOp1 dNot (mCallB (bIsi nKit nKit subK) [mVar 0, mK (.ty "bool")])))) sNil
noncomputable def fi_is_whole : FnI := ⟨["thing"], ([] : List D), fnSem 1 c_is_whole⟩
noncomputable def c_common_part_b1 : MS := sSeq (sPar2 0 1 [(false, mVar 1), (false, mOp2 dMod (mVar 0) (mVar 1))]) sNil
noncomputable def c_common_part : MS := sSeq (sWhile (tBl (mOp2 dGt (mVar 1) (mK (.int 0)))) c_common_part_b1) (sSeq (sRet (mVar 0)) sNil)
noncomputable def fi_common_part : FnI := ⟨["many", "few"], ([] : List D), fnSem 2 c_common_part⟩
noncomputable def c_Measure___init__ : MS := sSeq (sIf (tOrM (tNotM (tBl (mCallF fi_is_whole 1 [] [mVar 1] []))) (tNotM (tBl (mCallF fi_is_whole 1 [] [mVar 2] [])))) (sSeq (sRaise 1) sNil) sNil) (sSeq (sIf (tBl (mOp2 dEq (mVar 2) (mK (.int 0)))) (sSeq (sRaise 2) sNil) sNil) (sSeq (sAsg (gNm 3 false) (mCallF fi_common_part 2 [] [mCallB bAbs [mVar 1], mCallB bAbs [mVar 2]] [])) (sSeq (sIf (tBl (mOp2 dLt (mVar 2) (mK (.int 0)))) (sSeq (sAsg (gNm 3 false) (mOp2 dSub (mK (.int 0)) (mVar 3))) sNil) sNil) (sSeq (sFldM nCls "top" (mVar 0) (mOp2 dFdiv (mVar 1) (mVar 3))) (sSeq (sFldM nCls "bottom" (mVar 0) (mOp2 dFdiv (mVar 2) (mVar 3))) sNil)))))
noncomputable def fi_Measure___init__ : FnI := ⟨["self", "top", "bottom"], ([.int 1] : List D), fnSem 4 c_Measure___init__⟩
noncomputable def mk_Measure : MkI := ⟨0, ["top", "bottom"], fi_Measure___init__⟩
noncomputable def c_Measure___str__ : MS := sSeq (sAsg (gNm 1 false) (mIf (tBl (mOp2 dLt (mAttr tFls "top" (mVar 0)) (mK (.int 0)))) (mK (.str "-")) (mK (.str "")))) (sSeq (sAsg (gTu [gNm 2 false, gNm 3 false]) (mCallB bDivmod [mCallB bAbs [mAttr tFls "top" (mVar 0)], mAttr tFls "bottom" (mVar 0)])) (sSeq (sIf (tBl (mOp2 dEq (mVar 3) (mK (.int 0)))) (sSeq (sRet (mJoin [mFmt (mVar 1), mFmt (mVar 2)])) sNil) sNil) (sSeq (sIf (tBl (mOp2 dEq (mVar 2) (mK (.int 0)))) (sSeq (sRet (mJoin [mFmt (mVar 1), mFmt (mVar 3), mK (.str "/"), mFmt (mAttr tFls "bottom" (mVar 0))])) sNil) sNil) (sSeq (sRet (mJoin [mFmt (mVar 1), mFmt (mVar 2), mK (.str " "), mFmt (mVar 3), mK (.str "/"), mFmt (mAttr tFls "bottom" (mVar 0))])) sNil))))
noncomputable def fi_Measure___str__ : FnI := ⟨["self"], ([] : List D), fnSem 4 c_Measure___str__⟩
noncomputable def sp_str_Measure : Nat → Option FnI
  | 0 => some fi_Measure___str__
  | _ => none
noncomputable def c_measure_in : MS := sSeq (sAsg (gNm 1 false) (mOp2 dEq (mSl (mVar 0) oNone (oSome (mK (.int 1)))) (mK (.str "-")))) (sSeq (sAsg (gNm 2 false) (mCallF fi_written_in 1 [] [mIf (tBl (mVar 1)) (mSl (mVar 0) (oSome (mK (.int 1))) oNone) (mVar 0)] [])) (sSeq (sIf (tBl (mOp2 dIs (mVar 2) (mK .non))) (sSeq (sRet (mK .non)) sNil) sNil) (sSeq (sAsg (gNm 3 false) (mMake mk_Measure 2 [] [mIf (tBl (mVar 1)) (mOp2 dSub (mK (.int 0)) (mOp2 dIx (mVar 2) (mK (.int 0)))) (mOp2 dIx (mVar 2) (mK (.int 0))), mOp2 dIx (mVar 2) (mK (.int 1))] [])) (sSeq (sRet (mIf (tBl (mOp2 dEq (mCallB (bStrO sp_str_Measure) [mVar 3]) (mVar 0))) (mVar 3) (mK .non))) sNil))))
noncomputable def fi_measure_in : FnI := ⟨["text"], ([] : List D), fnSem 4 c_measure_in⟩
noncomputable def c_read_measure : MS := sSeq (sIf (tNotM (tBl (mCallB (bIsi nKit nKit subK) [mVar 0, mK (.ty "str")]))) (sSeq (sRaise 1) sNil) sNil) (sSeq (sAsg (gNm 1 false) (mCallF fi_measure_in 1 [] [mVar 0] [])) (sSeq (sIf (tBl (mOp2 dIs (mVar 1) (mK .non))) (sSeq (sRaise 1) sNil) sNil) (sSeq (sRet (mVar 1)) sNil)))
noncomputable def fi_read_measure : FnI := ⟨["text"], ([] : List D), fnSem 2 c_read_measure⟩
noncomputable def c_l_is : MS := sSeq (sIf (tOrM (tNotM (tBl (mCallB (bIsi nKit nKit subK) [mVar 0, mK (.cls 0)]))) (tOrM (tNotM (tBl (mCallB (bIsi nKit nKit subK) [mAttr tFls "top" (mVar 0), mK (.ty "int")]))) (tNotM (tBl (mCallB (bIsi nKit nKit subK) [mAttr tFls "bottom" (mVar 0), mK (.ty "int")]))))) (sSeq (sRet (mK (.bl false))) sNil) sNil) (sSeq (sIf (tOrM (tBl (mCallB (bIsi nKit nKit subK) [mAttr tFls "top" (mVar 0), mK (.ty "bool")])) (tOrM (tBl (mCallB (bIsi nKit nKit subK) [mAttr tFls "bottom" (mVar 0), mK (.ty "bool")])) (tBl (mOp2 dLt (mAttr tFls "bottom" (mVar 0)) (mK (.int 1)))))) (sSeq (sRet (mK (.bl false))) sNil) sNil) (sSeq (sRet (mAnd (mOp2 dEq (mOp2 dMul (mAttr tFls "top" (mVar 0)) (mVar 2)) (mOp2 dMul (mVar 1) (mAttr tFls "bottom" (mVar 0)))) (mOp2 dEq (mCallF fi_l_common 2 [] [mCallB bAbs [mAttr tFls "top" (mVar 0)], mAttr tFls "bottom" (mVar 0)] []) (mK (.int 1))))) sNil))
noncomputable def fi_l_is : FnI := ⟨["_law_found", "_law_top", "_law_bottom"], ([] : List D), fnSem 3 c_l_is⟩
noncomputable def c_l_right_b1 : MS := sSeq (sAsg (gNm 4 false) (mCallB (bIsiY (subY tX tXi) (tyY tX tXi) (bIsi nKit nKit subK)) [mVar 3, mTup [mK (.cls 4), mK (.cls 5), mK (.cls 6), mK (.cls 7), mK (.cls 8)]])) (sSeq (sRet (mAnd (mOp2 dIs (mVar 1) (mK .non)) (mAnd (mCallB (bIsiY (subY tX tXi) (tyY tX tXi) (bIsi nKit nKit subK)) [mVar 3, mK (.cls 1)]) (mAnd (mCallB (bIsiY (subY tX tXi) (tyY tX tXi) (bIsi nKit nKit subK)) [mVar 3, mK (.ty "ValueError")]) (mOp1 dNot (mVar 4)))))) sNil)
noncomputable def c_l_right_b2 : MS := sSeq (sAsg (gNm 2 false) (mIf (tBl (mOp2 dEq (mOp2 dMod (mCallB bLen [mVar 0]) (mK (.int 2))) (mK (.int 0)))) (mCallF fi_read_measure 0 ["text"] [] [mVar 0]) (mCallF fi_read_measure 1 [] [mVar 0] []))) sNil
noncomputable def c_l_right : MS := sSeq (sPar2 1 2 [(false, mCallF fi_l_read 1 [] [mVar 0] []), (false, mK .non)]) (sSeq (sTry tX.exmF c_l_right_b2 [⟨3, some 3, c_l_right_b1⟩]) (sSeq (sRet (mAnd (mOp2 dIsNot (mVar 1) (mK .non)) (mAnd (mCallF fi_l_is 3 [] [mVar 2, mOp2 dIx (mVar 1) (mK (.int 0)), mOp2 dIx (mVar 1) (mK (.int 1))] []) (mOp2 dEq (mCallB (bStrO sp_str_Measure) [mVar 2]) (mVar 0))))) sNil))
noncomputable def fi_l_right : FnI := ⟨["_law_line"], ([] : List D), fnSem 5 c_l_right⟩
noncomputable def c_l_hand_of : MS := sSeq (sAsg (gNm 2 false) (mK (.int 0))) (sSeq (sIf (tBl (mOp2 dLt (mVar 1) (mCallB bLen [mVar 0]))) (sSeq (sAsg (gNm 2 false) (mOp2 dIx (mVar 0) (mVar 1))) sNil) sNil) (sSeq (sAsg (gNm 3 false) (mOp2 dMod (mOp2 dAdd (mOp2 dAdd (mOp2 dMod (mVar 2) (mK (.int 2305843009213693951))) (mOp2 dMul (mK (.int 7919)) (mVar 1))) (mK (.int 3))) (mK (.int 2305843009213693951)))) (sSeq (sRet (mList [mOp2 dMul (mVar 2) (mCallB bInt [mOp2 dGe (mVar 2) (mOp2 dPow (mK (.int 10)) (mK (.int 18)))]), mVar 3, mK (.int 0)])) sNil)))
noncomputable def fi_l_hand_of : FnI := ⟨["_law_script", "_law_k"], ([] : List D), fnSem 4 c_l_hand_of⟩
noncomputable def c_l_nest_b1 : MS := sSeq (sAsg (gNm 1 false) (mOp2 dIx (mList [mTup [mVar 1], mList [mVar 1], mTup [mVar 1, mK (.int 1)]]) (mOp2 dMod (mVar 2) (mK (.int 3))))) sNil
noncomputable def c_l_nest : MS := sSeq (sAsg (gNm 1 false) (mK (.int 7))) (sSeq (sFor (iRange1 (mVar 0)) (gNm 2 false) c_l_nest_b1) (sSeq (sRet (mVar 1)) sNil))
noncomputable def fi_l_nest : FnI := ⟨["_law_deep"], ([] : List D), fnSem 3 c_l_nest⟩
noncomputable def c_l_take : MS := sSeq (sIf (tBl (mOp2 dGt (mOp2 dIx (mVar 0) (mK (.int 0))) (mK (.int 0)))) (sSeq (sAsg (gNm 2 false) (mOp2 dMod (mOp2 dIx (mVar 0) (mK (.int 0))) (mVar 1))) (sSeq (sAsg (gSubM (mVar 0) (mK (.int 0))) (mOp2 dFdiv (mOp2 dIx (mVar 0) (mK (.int 0))) (mVar 1))) (sSeq (sRet (mVar 2)) sNil))) sNil) (sSeq (sAsg (gSubM (mVar 0) (mK (.int 2))) (mOp2 dAdd (mOp2 dIx (mVar 0) (mK (.int 2))) (mK (.int 1)))) (sSeq (sAsg (gNm 3 false) (mOp2 dMod (mOp2 dPow (mOp2 dAdd (mOp2 dAdd (mOp2 dIx (mVar 0) (mK (.int 1))) (mOp2 dMul (mOp2 dMul (mK (.int 65537)) (mOp2 dIx (mVar 0) (mK (.int 2)))) (mOp2 dIx (mVar 0) (mK (.int 2))))) (mK (.int 11))) (mK (.int 3))) (mK (.int 2305843009213693921)))) (sSeq (sAsg (gNm 3 false) (mOp2 dMod (mOp2 dMul (mVar 3) (mOp2 dAdd (mOp2 dMod (mVar 3) (mK (.int 1000003))) (mOp2 dMul (mK (.int 99991)) (mOp2 dIx (mVar 0) (mK (.int 2)))))) (mK (.int 2305843009213693907)))) (sSeq (sRet (mOp2 dMod (mOp2 dAdd (mOp2 dFdiv (mVar 3) (mK (.int 97))) (mOp2 dFdiv (mVar 3) (mK (.int 1000033)))) (mVar 1))) sNil))))
noncomputable def fi_l_take : FnI := ⟨["_law_hand", "_law_many"], ([] : List D), fnSem 4 c_l_take⟩
noncomputable def c_l_any_thing : MS := sSeq (sAsg (gNm 1 false) (mList [mK .non, mK (.bl true), mK (.bl false), mTup [], mTup [mK (.int 1)], mList [], mList [mK (.int 1)], mDicK [] [], mDicK [.inl 1] [(.int 2)], mList [mTup [mK (.int 1)]], mTup [mK (.int 1), mK (.int 2)], mTup [mK .non, mK (.int 3)], mList [mList [mK (.int 1)], mK (.int 2)]])) (sSeq (sRet (mOp2 dIx (mOp2 dAdd (mVar 1) (mList [mCallF fi_l_nest 1 [] [mK (.int 30)] [], mCallF fi_l_nest 1 [] [mOp2 dAdd (mK (.int 2)) (mCallF fi_l_take 2 [] [mVar 0, mK (.int 28)] [])] []])) (mCallF fi_l_take 2 [] [mVar 0, mK (.int 15)] []))) sNil)
noncomputable def fi_l_any_thing : FnI := ⟨["_law_hand"], ([] : List D), fnSem 2 c_l_any_thing⟩
noncomputable def c_l_number_of : MS := sSeq (sAsg (gNm 1 false) (mOp2 dIx (mList [mK (.int 1), mK (.int 1), mK (.int 2), mK (.int 3), mK (.int 11), mK (.int 12), mK (.int 12), mK (.int 13)]) (mCallF fi_l_take 2 [] [mVar 0, mK (.int 8)] []))) (sSeq (sAsg (gNm 2 false) (mCallB bInt [mOp2 dAdd (mK (.str "1")) (mOp2 dMulR (mK (.str "0")) (mOp2 dSub (mVar 1) (mK (.int 1))))])) (sSeq (sRet (mOp2 dIx (mList [mOp2 dSub (mOp2 dMul (mK (.int 10)) (mVar 2)) (mK (.int 1)), mVar 2, mOp2 dAdd (mVar 2) (mCallF fi_l_take 2 [] [mVar 0, mOp2 dMul (mK (.int 9)) (mVar 2)] [])]) (mCallF fi_l_take 2 [] [mVar 0, mK (.int 3)] []))) sNil))
noncomputable def fi_l_number_of : FnI := ⟨["_law_hand"], ([] : List D), fnSem 3 c_l_number_of⟩
noncomputable def c_l_text_of : MS := sSeq (sAsg (gTu [gNm 1 false, gNm 2 false, gNm 3 false, gNm 4 false]) (mTup [mCallF fi_l_take 2 [] [mVar 0, mK (.int 4)] [], mCallF fi_l_number_of 1 [] [mVar 0] [], mCallF fi_l_number_of 1 [] [mVar 0] [], mCallF fi_l_number_of 1 [] [mVar 0] []])) (sSeq (sAsg (gNm 5 false) (mOp2 dIx (mList [mK (.str ""), mK (.str "-"), mK (.str "")]) (mCallF fi_l_take 2 [] [mVar 0, mK (.int 3)] []))) (sSeq (sAsg (gNm 6 false) (mCallF fi_l_common 2 [] [mVar 3, mOp2 dAdd (mVar 3) (mVar 4)] [])) (sSeq (sAsg (gNm 7 false) (mOp2 dAdd (mOp2 dAdd (mCallB bStr [mOp2 dFdiv (mVar 3) (mVar 6)]) (mK (.str "/"))) (mCallB bStr [mOp2 dFdiv (mOp2 dAdd (mVar 3) (mVar 4)) (mVar 6)]))) (sSeq (sRet (mOp2 dAdd (mVar 5) (mOp2 dIx (mList [mCallB bStr [mVar 2], mVar 7, mOp2 dAdd (mOp2 dAdd (mCallB bStr [mVar 2]) (mK (.str " "))) (mVar 7), mK (.str "0")]) (mVar 1)))) sNil))))
noncomputable def fi_l_text_of : FnI := ⟨["_law_hand"], ([] : List D), fnSem 8 c_l_text_of⟩
noncomputable def c_l_refused_b1 : MS := sSeq (sAsg (gNm 1 false) (mK (.bl true))) sNil
noncomputable def c_l_refused_b2 : MS := sSeq (sExpr (mCallF fi_read_measure 1 [] [mVar 0] [])) sNil
noncomputable def c_l_refused : MS := sSeq (sAsg (gNm 1 false) (mK (.bl false))) (sSeq (sTry tX.exmF c_l_refused_b2 [⟨1, none, c_l_refused_b1⟩]) (sSeq (sRet (mVar 1)) sNil))
noncomputable def fi_l_refused : FnI := ⟨["_law_thing"], ([] : List D), fnSem 2 c_l_refused⟩
noncomputable def c_l_bent : MS := sSeq (sPar2 2 3 [(false, mCallF fi_l_take 2 [] [mVar 0, mK (.int 10)] []), (false, mCallF fi_l_take 2 [] [mVar 0, mOp2 dAdd (mCallB bLen [mVar 1]) (mK (.int 1))] [])]) (sSeq (sAsg (gNm 4 false) (mOp2 dIx (mK (.str "0123456789 /-+.,x\n")) (mCallF fi_l_take 2 [] [mVar 0, mK (.int 18)] []))) (sSeq (sAsg (gNm 5 false) (mSm1 dSplit (mVar 1) (mK (.str " ")))) (sSeq (sAsg (gNm 6 false) (mList [mOp2 dAdd (mOp2 dAdd (mSl (mVar 1) oNone (oSome (mVar 3))) (mVar 4)) (mSl (mVar 1) (oSome (mVar 3)) oNone), mOp2 dAdd (mOp2 dAdd (mSl (mVar 1) oNone (oSome (mVar 3))) (mVar 4)) (mSl (mVar 1) (oSome (mOp2 dAdd (mVar 3) (mK (.int 1)))) oNone), mOp2 dAdd (mSl (mVar 1) oNone (oSome (mVar 3))) (mSl (mVar 1) (oSome (mOp2 dAdd (mVar 3) (mK (.int 1)))) oNone), mOp2 dAdd (mK (.str "0")) (mVar 1)])) (sSeq (sAsg (gNm 6 false) (mOp2 dAdd (mVar 6) (mList [mSm1 dJoin (mK (.str " ")) (mRevL (mVar 5)), mSm1 dJoin (mK (.str " ")) (mOp2 dAdd (mVar 5) (mSl (mVar 5) oNone (oSome (mK (.int 1))))), mSm1 dJoin (mK (.str " ")) (mSl (mVar 5) (oSome (mK (.int 1))) oNone), mOp2 dAdd (mK (.str "-")) (mVar 1), mOp2 dAdd (mVar 1) (mK (.str "/1"))]))) (sSeq (sRet (mOp2 dIxV (mOp2 dAdd (mVar 6) (mList [mOp2 dAdd (mRepl "/" "0/" (mVar 1)) (mK (.str "0"))])) (mVar 2))) sNil)))))
noncomputable def fi_l_bent : FnI := ⟨["_law_hand", "_law_line"], ([] : List D), fnSem 7 c_l_bent⟩
noncomputable def c_law_b1 : MS := sSeq (sAsg (gNm 2 false) (mList [mVar 1, mOp2 dAdd (mK (.str "-")) (mVar 1), mOp2 dAdd (mVar 1) (mK (.str "/7")), mOp2 dAdd (mK (.str "1/")) (mVar 1), mOp2 dAdd (mVar 1) (mK (.str " 1/2")), mOp2 dAdd (mK (.str "3 1/")) (mVar 1)])) (sSeq (sIf (tNotM (tBl (mCallB bAll [mComp (iVal (mVar 2)) (gNm 3 false) tTrue (mCallF fi_l_right 1 [] [mVar 3] []) [3]]))) (sSeq (sRet (mK (.bl false))) sNil) sNil) sNil)
noncomputable def c_law_b2 : MS := sSeq (sAsg (gNm 8 false) (mCallF fi_l_bent 2 [] [mVar 5, mVar 3] [])) (sSeq (sIf (tOrM (tNotM (tBl (mCallF fi_l_right 1 [] [mVar 8] []))) (tNotM (tBl (mCallF fi_l_right 1 [] [mCallF fi_l_bent 2 [] [mVar 5, mVar 8] []] [])))) (sSeq (sRet (mK (.bl false))) sNil) sNil) sNil)
noncomputable def c_law_b3 : MS := sSeq (sAsg (gNm 5 true) (mCallF fi_l_hand_of 2 [] [mVar 0, mVar 4] [])) (sSeq (sPar2 6 3 [(false, mCallF fi_l_any_thing 1 [] [mVar 5] []), (false, mCallF fi_l_text_of 1 [] [mVar 5] [])]) (sSeq (sAsg (gNm 6 false) (mOp2 dIx (mList [mVar 6, mMake mk_Measure 2 [] [mK (.int 1), mK (.int 2)] [], mK (.int 5), mTup [mVar 3], mList [mVar 3]]) (mCallF fi_l_take 2 [] [mVar 5, mK (.int 5)] []))) (sSeq (sIf (tOrM (tNotM (tBl (mCallF fi_l_right 1 [] [mVar 3] []))) (tNotM (tBl (mCallF fi_l_refused 1 [] [mVar 6] [])))) (sSeq (sRet (mK (.bl false))) sNil) sNil) (sSeq (sFor (iRange1 (mK (.int 8))) (gNm 7 false) c_law_b2) sNil))))
noncomputable def c_law : MS := sSeq (sFor (iVal (mTup [mOp2 dMulR (mK (.str "7")) (mK (.int 4301)), mOp2 dMulR (mK (.str "0")) (mK (.int 4301)), mOp2 dAdd (mOp2 dMulR (mK (.str "0")) (mK (.int 4301))) (mK (.str "7")), mOp2 dAdd (mK (.str "1")) (mOp2 dMulR (mK (.str "0")) (mK (.int 5000)))])) (gNm 1 false) c_law_b1) (sSeq (sFor (iRange1 (mOp2 dAdd (mK (.int 2)) (mCallB bMin [mK (.int 8), mCallB bLen [mVar 0]]))) (gNm 4 false) c_law_b3) (sSeq (sRet (mK (.bl true))) sNil))
noncomputable def fi_law : FnI := ⟨["_law_script"], ([] : List D), fnSem 9 c_law⟩
theorem sem_l_figures {x0 : S} {μ : Sto} : fi_l_figures.sem [x0] μ = finF μ.length (c_l_figures [some x0, none] μ) := (congrFun (congrFun (sem_of (show fi_l_figures = ⟨_, _, fnSem 2 c_l_figures⟩ from rfl)) _) _).trans fnS_1_1
theorem cl_l_figures_1 {x0 : S} {μ : Sto} : callF fi_l_figures 1 [] [x0] [] μ = fi_l_figures.sem [x0] μ := callF_eq rfl rfl rfl
theorem sem_l_read {x0 : S} {μ : Sto} : fi_l_read.sem [x0] μ = finF μ.length (c_l_read [some x0, none, none, none, none, none, none, none, none, none] μ) := (congrFun (congrFun (sem_of (show fi_l_read = ⟨_, _, fnSem 10 c_l_read⟩ from rfl)) _) _).trans fnS_1_9
theorem cl_l_read_1 {x0 : S} {μ : Sto} : callF fi_l_read 1 [] [x0] [] μ = fi_l_read.sem [x0] μ := callF_eq rfl rfl rfl
theorem sem_figures_in {x0 : S} {μ : Sto} : fi_figures_in.sem [x0] μ = finF μ.length (c_figures_in [some x0, none] μ) := (congrFun (congrFun (sem_of (show fi_figures_in = ⟨_, _, fnSem 2 c_figures_in⟩ from rfl)) _) _).trans fnS_1_1
theorem cl_figures_in_1 {x0 : S} {μ : Sto} : callF fi_figures_in 1 [] [x0] [] μ = fi_figures_in.sem [x0] μ := callF_eq rfl rfl rfl
theorem sem_part_in {x0 : S} {μ : Sto} : fi_part_in.sem [x0] μ = finF μ.length (c_part_in [some x0, none, none, none, none] μ) := (congrFun (congrFun (sem_of (show fi_part_in = ⟨_, _, fnSem 5 c_part_in⟩ from rfl)) _) _).trans fnS_1_4
theorem cl_part_in_1 {x0 : S} {μ : Sto} : callF fi_part_in 1 [] [x0] [] μ = fi_part_in.sem [x0] μ := callF_eq rfl rfl rfl
theorem sem_written_in {x0 : S} {μ : Sto} : fi_written_in.sem [x0] μ = finF μ.length (c_written_in [some x0, none, none, none, none, none] μ) := (congrFun (congrFun (sem_of (show fi_written_in = ⟨_, _, fnSem 6 c_written_in⟩ from rfl)) _) _).trans fnS_1_5
theorem cl_written_in_1 {x0 : S} {μ : Sto} : callF fi_written_in 1 [] [x0] [] μ = fi_written_in.sem [x0] μ := callF_eq rfl rfl rfl
theorem sem_Measure___str__ {x0 : S} {μ : Sto} : fi_Measure___str__.sem [x0] μ = finF μ.length (c_Measure___str__ [some x0, none, none, none] μ) := (congrFun (congrFun (sem_of (show fi_Measure___str__ = ⟨_, _, fnSem 4 c_Measure___str__⟩ from rfl)) _) _).trans fnS_1_3
theorem sem_measure_in {x0 : S} {μ : Sto} : fi_measure_in.sem [x0] μ = finF μ.length (c_measure_in [some x0, none, none, none] μ) := (congrFun (congrFun (sem_of (show fi_measure_in = ⟨_, _, fnSem 4 c_measure_in⟩ from rfl)) _) _).trans fnS_1_3
theorem cl_measure_in_1 {x0 : S} {μ : Sto} : callF fi_measure_in 1 [] [x0] [] μ = fi_measure_in.sem [x0] μ := callF_eq rfl rfl rfl
theorem sem_read_measure {x0 : S} {μ : Sto} : fi_read_measure.sem [x0] μ = finF μ.length (c_read_measure [some x0, none] μ) := (congrFun (congrFun (sem_of (show fi_read_measure = ⟨_, _, fnSem 2 c_read_measure⟩ from rfl)) _) _).trans fnS_1_1
theorem cl_read_measure_1 {x0 : S} {μ : Sto} : callF fi_read_measure 1 [] [x0] [] μ = fi_read_measure.sem [x0] μ := callF_eq rfl rfl rfl
theorem sem_l_right {x0 : S} {μ : Sto} : fi_l_right.sem [x0] μ = finF μ.length (c_l_right [some x0, none, none, none, none] μ) := (congrFun (congrFun (sem_of (show fi_l_right = ⟨_, _, fnSem 5 c_l_right⟩ from rfl)) _) _).trans fnS_1_4
theorem cl_l_right_1 {x0 : S} {μ : Sto} : callF fi_l_right 1 [] [x0] [] μ = fi_l_right.sem [x0] μ := callF_eq rfl rfl rfl
theorem sem_l_nest {x0 : S} {μ : Sto} : fi_l_nest.sem [x0] μ = finF μ.length (c_l_nest [some x0, none, none] μ) := (congrFun (congrFun (sem_of (show fi_l_nest = ⟨_, _, fnSem 3 c_l_nest⟩ from rfl)) _) _).trans fnS_1_2
theorem cl_l_nest_1 {x0 : S} {μ : Sto} : callF fi_l_nest 1 [] [x0] [] μ = fi_l_nest.sem [x0] μ := callF_eq rfl rfl rfl
theorem sem_l_any_thing {x0 : S} {μ : Sto} : fi_l_any_thing.sem [x0] μ = finF μ.length (c_l_any_thing [some x0, none] μ) := (congrFun (congrFun (sem_of (show fi_l_any_thing = ⟨_, _, fnSem 2 c_l_any_thing⟩ from rfl)) _) _).trans fnS_1_1
theorem cl_l_any_thing_1 {x0 : S} {μ : Sto} : callF fi_l_any_thing 1 [] [x0] [] μ = fi_l_any_thing.sem [x0] μ := callF_eq rfl rfl rfl
theorem sem_l_number_of {x0 : S} {μ : Sto} : fi_l_number_of.sem [x0] μ = finF μ.length (c_l_number_of [some x0, none, none] μ) := (congrFun (congrFun (sem_of (show fi_l_number_of = ⟨_, _, fnSem 3 c_l_number_of⟩ from rfl)) _) _).trans fnS_1_2
theorem cl_l_number_of_1 {x0 : S} {μ : Sto} : callF fi_l_number_of 1 [] [x0] [] μ = fi_l_number_of.sem [x0] μ := callF_eq rfl rfl rfl
theorem sem_l_text_of {x0 : S} {μ : Sto} : fi_l_text_of.sem [x0] μ = finF μ.length (c_l_text_of [some x0, none, none, none, none, none, none, none] μ) := (congrFun (congrFun (sem_of (show fi_l_text_of = ⟨_, _, fnSem 8 c_l_text_of⟩ from rfl)) _) _).trans fnS_1_7
theorem cl_l_text_of_1 {x0 : S} {μ : Sto} : callF fi_l_text_of 1 [] [x0] [] μ = fi_l_text_of.sem [x0] μ := callF_eq rfl rfl rfl
theorem sem_l_refused {x0 : S} {μ : Sto} : fi_l_refused.sem [x0] μ = finF μ.length (c_l_refused [some x0, none] μ) := (congrFun (congrFun (sem_of (show fi_l_refused = ⟨_, _, fnSem 2 c_l_refused⟩ from rfl)) _) _).trans fnS_1_1
theorem cl_l_refused_1 {x0 : S} {μ : Sto} : callF fi_l_refused 1 [] [x0] [] μ = fi_l_refused.sem [x0] μ := callF_eq rfl rfl rfl
theorem sem_l_bent {x0 x1 : S} {μ : Sto} : fi_l_bent.sem [x0, x1] μ = finF μ.length (c_l_bent [some x0, some x1, none, none, none, none, none] μ) := (congrFun (congrFun (sem_of (show fi_l_bent = ⟨_, _, fnSem 7 c_l_bent⟩ from rfl)) _) _).trans fnS_2_5
theorem cl_l_bent_2 {x0 x1 : S} {μ : Sto} : callF fi_l_bent 2 [] [x0, x1] [] μ = fi_l_bent.sem [x0, x1] μ := callF_eq rfl rfl rfl
theorem sem_law {x0 : S} {μ : Sto} : fi_law.sem [x0] μ = finF μ.length (c_law [some x0, none, none, none, none, none, none, none, none] μ) := (congrFun (congrFun (sem_of (show fi_law = ⟨_, _, fnSem 9 c_law⟩ from rfl)) _) _).trans fnS_1_8
end Law
set_option Elab.async false
set_option linter.all false
set_option maxRecDepth 100000
set_option maxHeartbeats 4000000
namespace Law
open PySem PySem.Spec L2 Sz
abbrev Says (K : PySem.W.Frag) : Prop := SaysZ tChk (faOf tFrees tGlobs tRest) tDefs K
abbrev gq (K : PySem.W.Frag) : G := gOf tCls tFlsX K tFns
abbrev TX (K : PySem.W.Frag) (mg : Str → Option Value) (w : World) : Prop := TbX (gq K) mg w tFrees tGlobs tCis tCss tTabs tFns tTps
theorem mkr_Measure {K : PySem.W.Frag} (S : Says K) : Mk (gq K).K ((gq K).cad 0) (He.ma K (He.ga K "Measure") "__init__") := He.mkr_ok (rest_ok S.says 1 rfl)
theorem no_top {K : PySem.W.Frag} (S : Says K) : ∀ c, c < tFls.length → NoAttr (gq K).K ((gq K).cad c) "top"
  | 0, _ => He.noat_ok (rest_ok S.says 2 rfl)
  | n + 1, h => absurd (show n + 1 < 1 from h) (by omega)
theorem no_bottom {K : PySem.W.Frag} (S : Says K) : ∀ c, c < tFls.length → NoAttr (gq K).K ((gq K).cad c) "bottom"
  | 0, _ => He.noat_ok (rest_ok S.says 3 rfl)
  | n + 1, h => absurd (show n + 1 < 1 from h) (by omega)
theorem cls_all {K : PySem.W.Frag} (S : Says K) : ∀ c, c < tFls.length → Cls (gq K).K ((gq K).cad c)
  | 0, _ => He.cls_ok (rest_ok S.says 0 rfl)
  | n + 1, h => absurd (show n + 1 < 1 from h) (by omega)
theorem no_all {K : PySem.W.Frag} (S : Says K) : ∀ (c : Nat) (l : List Str) (f : Str), tFls[c]? = some l → f ∈ l → NoAttr (gq K).K ((gq K).cad c) f
  | 0, l, f, h, hf => by
    have e : l = (["top", "bottom"] : List Str) := (Option.some.inj h).symm
    subst e
    simp only [List.mem_cons, List.not_mem_nil, or_false] at hf
    rcases hf with rfl | rfl
    · exact no_top S 0 (by decide)
    · exact no_bottom S 0 (by decide)

  | n + 1, l, f, h, hf => by cases h
theorem fldF {K : PySem.W.Frag} (S : Says K) : FldF (gq K) tFls := ⟨fun c l h => by show tFlsX.getD c [] = l; rw [List.getD_eq_getElem?_getD, show tFlsX[c]? = some l from (List.getElem?_append_left (List.getElem?_eq_some_iff.mp h).1).trans h]; rfl, cls_all S, no_all S⟩
theorem xtS {K : PySem.W.Frag} (S : Says K) : xtB tCls tX K = true := (He.ba (He.ba (He.ba (He.ba (He.ba (He.ba (He.ba S.chk).2).1).2).2).2).2).1
theorem xiS {K : PySem.W.Frag} (S : Says K) : xiA tCls tXi K = true := (He.ba (He.ba (He.ba (He.ba (He.ba (He.ba (He.ba S.chk).2).1).2).2).2).2).2
theorem xcf_ok {K : PySem.W.Frag} (S : Says K) {c : Nat} (h : (tX.exs.lookup c).isSome = true) : XcF (gq K) (gq K).K c := xt_xcf (xtS S) h
theorem kitF {K : PySem.W.Frag} (S : Says K) : KitF (gq K) nKit nKit subK := kitB_ok (He.ba (He.ba S.chk).1).1
section
variable {P : Program} {w : World} {mg : Str → Option Value} {base : Heap} {K : PySem.W.Frag}
abbrev sh_l_figures : List (Nat × List Str) := [(1, [])]
abbrev N_l_figures : List Str := ["_law_word", "_law_sign"]
theorem fs_l_figures : FnScope N_l_figures ["_law_word"] (defScope st_l_figures) := ⟨rfl, rfl, rfl, by decide +kernel, rfl, by decide +kernel, by decide +kernel⟩
theorem b_l_figures (T : TX K mg w) (S : Says K) : ∀ X W, Ct (gq K) P w mg base 0 N_l_figures (defScope st_l_figures) true true true X W → SB (gq K) X W (defBody st_l_figures) c_l_figures := fun X W c =>
  sb_cons (ss_if (st_pw (sw_or (st_not (st_chain ok_le ok_le se_int (c.callB T.toTb (co_len c.K) rfl rfl rfl rfl (sa_cons rfl (c.var rfl) sa_nil)) se_int rfl)) (sw_one _ (st_cmp (ok_ne c.K c.hu64) (c.comp1 (sl := [1]) (ow := [("_law_sign", 1)]) (si_val c.K (c.var rfl)) rfl rfl rfl rfl (fun X W c => c.sgName rfl) (fun X W c => st_cmp (ok_notin c.K c.hu65) (c.var rfl) se_str rfl) (fun X W c => c.var rfl)) (se_lst sa_nil) rfl)))) (sb_cons (ss_ret se_non) sb_nil) sb_nil) (sb_cons (ss_ret (se_if (st_pw (sw_or (st_cmp (ok_eq c.K c.hu64) (c.var rfl) se_str rfl) (sw_one _ (st_cmp (ok_ne c.K c.hu64) (se_ix c.K (c.var rfl) se_int rfl) se_str rfl)))) (c.callTy T.toTb co_int rfl rfl rfl rfl (sa_cons rfl (c.var rfl) sa_nil)) se_non)) sb_nil)
theorem ok_l_figures (T : TX K mg w) (S : Says K) : FnC true (gq K) P w mg base fi_l_figures 1 (He.ga K "_law_figures") sh_l_figures :=
  FnC.of (N := N_l_figures) (code := c_l_figures) (dfl := ([] : List D)) (S.says.def_ 0 (d := d_l_figures) rfl) rfl fs_l_figures (b_l_figures T S) (fun fd F => ⟨bnd0 F (fun _ _ _ _ _ _ us ws hu hw => match us, ws, hu, hw with | [_], [], _, _ => ⟨_, rfl, rfl⟩), trivial⟩)
abbrev sh_l_common : List (Nat × List Str) := [(2, [])]
abbrev N_l_common : List Str := ["_law_big", "_law_low"]
theorem fs_l_common : FnScope N_l_common ["_law_big", "_law_low"] (defScope st_l_common) := ⟨rfl, rfl, rfl, by decide +kernel, rfl, by decide +kernel, by decide +kernel⟩
theorem b_l_common (T : TX K mg w) (S : Says K) : ∀ X W, Ct (gq K) P w mg base 0 N_l_common (defScope st_l_common) true true true X W → SB (gq K) X W (defBody st_l_common) c_l_common := fun X W c =>
  sb_cons (ss_while (c.po rfl rfl) (st_cmp (ok_gt c.K c.hu64) (c.var rfl) se_int rfl) (sb_cons (c.par2 rfl rfl rfl rfl (so_cons rfl (c.var rfl) (so_cons rfl (se_bin ok_mod (c.var rfl) (c.var rfl)) so_nil))) sb_nil)) (sb_cons (ss_ret (c.var rfl)) sb_nil)
theorem ok_l_common (T : TX K mg w) (S : Says K) : FnC true (gq K) P w mg base fi_l_common 1 (He.ga K "_law_common") sh_l_common :=
  FnC.of (N := N_l_common) (code := c_l_common) (dfl := ([] : List D)) (S.says.def_ 1 (d := d_l_common) rfl) rfl fs_l_common (b_l_common T S) (fun fd F => ⟨bnd0 F (fun _ _ _ _ _ _ us ws hu hw => match us, ws, hu, hw with | [_, _], [], _, _ => ⟨_, rfl, rfl⟩), trivial⟩)
abbrev sh_l_read : List (Nat × List Str) := [(1, [])]
abbrev N_l_read : List Str := ["_law_line", "_law_below", "_law_body", "_law_ahead", "_law_blank", "_law_part", "_law_whole", "_law_top", "_law_bottom", "_law_word"]
theorem fs_l_read : FnScope N_l_read ["_law_line"] (defScope st_l_read) := ⟨rfl, rfl, rfl, by decide +kernel, rfl, by decide +kernel, by decide +kernel⟩
theorem b_l_read (T : TX K mg w) (S : Says K) : ∀ X W, Ct (gq K) P w mg base 1 N_l_read (defScope st_l_read) true true true X W → SB (gq K) X W (defBody st_l_read) c_l_read := fun X W c =>
  sb_cons (c.set rfl rfl (se_cmp (ok_eq c.K c.hu64) (se_slice c.K (c.var rfl) so_none (so_some se_int)) se_str rfl)) (sb_cons (c.set rfl rfl (se_if (st_val (c.var rfl) (fun _ => rfl)) (se_slice c.K (c.var rfl) (so_some se_int) so_none) (c.var rfl))) (sb_cons (c.tupS (.cons rfl (c.sgName rfl) (.cons rfl (c.sgName rfl) (.cons rfl (c.sgName rfl) .nil))) rfl (se_sm1 PySem.F.slot_str_rpartition PySem.F.type_str_rpartition mt_rpartition sm_rpart (c.var rfl) se_str)) (sb_cons (ss_if (st_cmp (ok_notin c.K c.hu65) se_str (c.var rfl) rfl) (sb_cons (c.set rfl rfl (c.call T.toTb (ok_l_figures T S) rfl rfl rfl rfl rfl rfl (.cons rfl (sa_cons rfl (c.var rfl) sa_nil)) sk_nil)) (sb_cons (ss_ret (se_if (st_pw (sw_or (st_cmp ok_is (c.var rfl) se_non rfl) (sw_one _ (st_pw (sw_and (st_val (c.var rfl) (fun _ => rfl)) (sw_one _ (st_cmp (ok_eq c.K c.hu64) (c.var rfl) se_int rfl))))))) se_non (se_tup (sa_cons rfl (se_bin ok_mul (c.var rfl) (se_bin ok_sub se_int (se_bin ok_mul se_int (c.callTy T.toTb co_int rfl rfl rfl rfl (sa_cons rfl (c.var rfl) sa_nil))))) (sa_cons rfl se_int sa_nil))))) sb_nil)) sb_nil) (sb_cons (c.tupSC (.cons rfl (c.sgName rfl) (.cons rfl (c.sgName rfl) .nil)) (c.comp0 (sl := [9]) (ow := [("_law_word", 9)]) (si_val c.K (se_tup (sa_cons rfl (se_ix c.K (se_sm1 PySem.F.slot_str_partition PySem.F.type_str_partition mt_partition sm_part (c.var rfl) se_str) se_int rfl) (sa_cons rfl (se_ix c.K (se_sm1 PySem.F.slot_str_partition PySem.F.type_str_partition mt_partition sm_part (c.var rfl) se_str) se_int rfl) sa_nil)))) rfl rfl rfl rfl (fun X W c => c.sgName rfl) (fun X W c => c.call T.toTb (ok_l_figures T S) rfl rfl rfl rfl rfl rfl (.cons rfl (sa_cons rfl (c.var rfl) sa_nil)) sk_nil))) (sb_cons (c.set rfl rfl (se_if (st_cmp (ok_ne c.K c.hu64) (c.var rfl) se_str rfl) (c.call T.toTb (ok_l_figures T S) rfl rfl rfl rfl rfl rfl (.cons rfl (sa_cons rfl (c.var rfl) sa_nil)) sk_nil) se_int)) (sb_cons (ss_if (st_pw (sw_or (st_cmp ok_is (c.var rfl) se_non rfl) (sw_or (st_cmp ok_is (c.var rfl) se_non rfl) (sw_or (st_cmp ok_is (c.var rfl) se_non rfl) (sw_one _ (st_pw (sw_and (st_cmp (ok_ne c.K c.hu64) (c.var rfl) se_str rfl) (sw_one _ (st_cmp (ok_eq c.K c.hu64) (c.var rfl) se_int rfl))))))))) (sb_cons (ss_ret se_non) sb_nil) sb_nil) (sb_cons (ss_if (st_pw (sw_or (st_not (st_chain (ok_lt c.K c.hu64) (ok_lt c.K c.hu64) se_int (c.var rfl) (c.var rfl) rfl)) (sw_one _ (st_cmp (ok_ne c.K c.hu64) (c.call T.toTb (ok_l_common T S) rfl rfl rfl rfl rfl rfl (.cons rfl (sa_cons rfl (c.var rfl) (sa_cons rfl (c.var rfl) sa_nil))) sk_nil) se_int rfl)))) (sb_cons (ss_ret se_non) sb_nil) sb_nil) (sb_cons (ss_ret (se_tup (sa_cons rfl (se_bin ok_mul (se_bin (ok_add c.K) (se_bin ok_mul (c.var rfl) (c.var rfl)) (c.var rfl)) (se_bin ok_sub se_int (se_bin ok_mul se_int (c.callTy T.toTb co_int rfl rfl rfl rfl (sa_cons rfl (c.var rfl) sa_nil))))) (sa_cons rfl (c.var rfl) sa_nil)))) sb_nil))))))))
theorem ok_l_read (T : TX K mg w) (S : Says K) : FnC true (gq K) P w mg base fi_l_read 2 (He.ga K "_law_read") sh_l_read :=
  FnC.of (N := N_l_read) (code := c_l_read) (dfl := ([] : List D)) (S.says.def_ 2 (d := d_l_read) rfl) rfl fs_l_read (b_l_read T S) (fun fd F => ⟨bnd0 F (fun _ _ _ _ _ _ us ws hu hw => match us, ws, hu, hw with | [_], [], _, _ => ⟨_, rfl, rfl⟩), trivial⟩)
abbrev sh_figures_in : List (Nat × List Str) := [(1, [])]
abbrev N_figures_in : List Str := ["text", "sign"]
theorem fs_figures_in : FnScope N_figures_in ["text"] (defScope st_figures_in) := ⟨rfl, rfl, rfl, by decide +kernel, rfl, by decide +kernel, by decide +kernel⟩
theorem b_figures_in (T : TX K mg w) (S : Says K) : ∀ X W, Ct (gq K) P w mg base 0 N_figures_in (defScope st_figures_in) true true true X W → SB (gq K) X W (defBody st_figures_in) c_figures_in := fun X W c =>
  sb_cons (ss_if (st_pw (sw_or (st_not (st_chain ok_le ok_le se_int (c.callB T.toTb (co_len c.K) rfl rfl rfl rfl (sa_cons rfl (c.var rfl) sa_nil)) (c.gint rfl (T.gi _ _ rfl)) rfl)) (sw_one _ (st_not (st_val (c.callB T.toTb (co_all (c.calm rfl)) rfl rfl rfl rfl (sa_cons rfl (c.comp0 (sl := [1]) (ow := [("sign", 1)]) (si_val c.K (c.var rfl)) rfl rfl rfl rfl (fun X W c => c.sgName rfl) (fun X W c => se_cmp (ok_in c.K c.hu65) (c.var rfl) (c.gstr rfl (T.gs _ _ rfl)) rfl)) sa_nil)) (fun _ => rfl)))))) (sb_cons (ss_ret se_non) sb_nil) sb_nil) (sb_cons (ss_ret (c.callTy T.toTb co_int rfl rfl rfl rfl (sa_cons rfl (c.var rfl) sa_nil))) sb_nil)
theorem ok_figures_in (T : TX K mg w) (S : Says K) : FnC true (gq K) P w mg base fi_figures_in 1 (He.ga K "figures_in") sh_figures_in :=
  FnC.of (N := N_figures_in) (code := c_figures_in) (dfl := ([] : List D)) (S.says.def_ 3 (d := d_figures_in) rfl) rfl fs_figures_in (b_figures_in T S) (fun fd F => ⟨bnd0 F (fun _ _ _ _ _ _ us ws hu hw => match us, ws, hu, hw with | [_], [], _, _ => ⟨_, rfl, rfl⟩), trivial⟩)
abbrev sh_part_in : List (Nat × List Str) := [(1, [])]
abbrev N_part_in : List Str := ["text", "top", "stroke", "bottom", "numbers"]
theorem fs_part_in : FnScope N_part_in ["text"] (defScope st_part_in) := ⟨rfl, rfl, rfl, by decide +kernel, rfl, by decide +kernel, by decide +kernel⟩
theorem b_part_in (T : TX K mg w) (S : Says K) : ∀ X W, Ct (gq K) P w mg base 1 N_part_in (defScope st_part_in) true true true X W → SB (gq K) X W (defBody st_part_in) c_part_in := fun X W c =>
  sb_cons (c.tupS (.cons rfl (c.sgName rfl) (.cons rfl (c.sgName rfl) (.cons rfl (c.sgName rfl) .nil))) rfl (se_sm1 PySem.F.slot_str_partition PySem.F.type_str_partition mt_partition sm_part (c.var rfl) se_str)) (sb_cons (c.set rfl rfl (se_tup (sa_cons rfl (c.call T.toTb (ok_figures_in T S) rfl rfl rfl rfl rfl rfl (.cons rfl (sa_cons rfl (c.var rfl) sa_nil)) sk_nil) (sa_cons rfl (c.call T.toTb (ok_figures_in T S) rfl rfl rfl rfl rfl rfl (.cons rfl (sa_cons rfl (c.var rfl) sa_nil)) sk_nil) sa_nil)))) (sb_cons (ss_if (st_pw (sw_or (st_cmp (ok_eq c.K c.hu64) (c.var rfl) se_str rfl) (sw_or (st_cmp (ok_in c.K c.hu65) se_non (c.var rfl) rfl) (sw_one _ (st_cmp (ok_eq c.K c.hu64) (se_ix c.K (c.var rfl) se_int rfl) se_int rfl))))) (sb_cons (ss_ret se_non) sb_nil) sb_nil) (sb_cons (ss_ret (c.var rfl)) sb_nil)))
theorem ok_part_in (T : TX K mg w) (S : Says K) : FnC true (gq K) P w mg base fi_part_in 2 (He.ga K "part_in") sh_part_in :=
  FnC.of (N := N_part_in) (code := c_part_in) (dfl := ([] : List D)) (S.says.def_ 4 (d := d_part_in) rfl) rfl fs_part_in (b_part_in T S) (fun fd F => ⟨bnd0 F (fun _ _ _ _ _ _ us ws hu hw => match us, ws, hu, hw with | [_], [], _, _ => ⟨_, rfl, rfl⟩), trivial⟩)
abbrev sh_written_in : List (Nat × List Str) := [(1, [])]
abbrev N_written_in : List Str := ["text", "whole", "ahead", "blank", "rest", "part"]
theorem fs_written_in : FnScope N_written_in ["text"] (defScope st_written_in) := ⟨rfl, rfl, rfl, by decide +kernel, rfl, by decide +kernel, by decide +kernel⟩
theorem b_written_in (T : TX K mg w) (S : Says K) : ∀ X W, Ct (gq K) P w mg base 2 N_written_in (defScope st_written_in) true true true X W → SB (gq K) X W (defBody st_written_in) c_written_in := fun X W c =>
  sb_cons (ss_if (st_cmp (ok_notin c.K c.hu65) se_str (c.var rfl) rfl) (sb_cons (c.set rfl rfl (c.call T.toTb (ok_figures_in T S) rfl rfl rfl rfl rfl rfl (.cons rfl (sa_cons rfl (c.var rfl) sa_nil)) sk_nil)) (sb_cons (ss_ret (se_if (st_cmp ok_is (c.var rfl) se_non rfl) se_non (se_tup (sa_cons rfl (c.var rfl) (sa_cons rfl se_int sa_nil))))) sb_nil)) sb_nil) (sb_cons (c.tupS (.cons rfl (c.sgName rfl) (.cons rfl (c.sgName rfl) (.cons rfl (c.sgName rfl) .nil))) rfl (se_sm1 PySem.F.slot_str_rpartition PySem.F.type_str_rpartition mt_rpartition sm_rpart (c.var rfl) se_str)) (sb_cons (c.set rfl rfl (c.call T.toTb (ok_part_in T S) rfl rfl rfl rfl rfl rfl (.cons rfl (sa_cons rfl (c.var rfl) sa_nil)) sk_nil)) (sb_cons (c.set rfl rfl (se_if (st_cmp (ok_eq c.K c.hu64) (c.var rfl) se_str rfl) se_int (c.call T.toTb (ok_figures_in T S) rfl rfl rfl rfl rfl rfl (.cons rfl (sa_cons rfl (c.var rfl) sa_nil)) sk_nil))) (sb_cons (ss_if (st_pw (sw_or (st_cmp ok_is (c.var rfl) se_non rfl) (sw_one _ (st_cmp ok_is (c.var rfl) se_non rfl)))) (sb_cons (ss_ret se_non) sb_nil) sb_nil) (sb_cons (ss_ret (se_tup (sa_cons rfl (se_bin (ok_add c.K) (se_bin ok_mul (c.var rfl) (se_ix c.K (c.var rfl) se_int rfl)) (se_ix c.K (c.var rfl) se_int rfl)) (sa_cons rfl (se_ix c.K (c.var rfl) se_int rfl) sa_nil)))) sb_nil)))))
theorem ok_written_in (T : TX K mg w) (S : Says K) : FnC true (gq K) P w mg base fi_written_in 3 (He.ga K "written_in") sh_written_in :=
  FnC.of (N := N_written_in) (code := c_written_in) (dfl := ([] : List D)) (S.says.def_ 5 (d := d_written_in) rfl) rfl fs_written_in (b_written_in T S) (fun fd F => ⟨bnd0 F (fun _ _ _ _ _ _ us ws hu hw => match us, ws, hu, hw with | [_], [], _, _ => ⟨_, rfl, rfl⟩), trivial⟩)
abbrev sh_is_whole : List (Nat × List Str) := [(1, [])]
abbrev N_is_whole : List Str := ["thing"]
theorem fs_is_whole : FnScope N_is_whole ["thing"] (defScope st_is_whole) := ⟨rfl, rfl, rfl, by decide +kernel, rfl, by decide +kernel, by decide +kernel⟩
theorem b_is_whole (T : TX K mg w) (S : Says K) : ∀ X W, Ct (gq K) P w mg base 0 N_is_whole (defScope st_is_whole) true true true X W → SB (gq K) X W (defBody st_is_whole) c_is_whole := fun X W c =>
  sb_cons (ss_ret (se_and (c.callB T.toTb (co_isi c.K (kitF S)) rfl rfl rfl rfl (sa_cons rfl (c.var rfl) (sa_cons rfl (c.tyName T.toTb rfl rfl rfl) sa_nil))) (se_one (se_not (c.callB T.toTb (co_isi c.K (kitF S)) rfl rfl rfl rfl (sa_cons rfl (c.var rfl) (sa_cons rfl (c.tyName T.toTb rfl rfl rfl) sa_nil))))))) sb_nil
theorem ok_is_whole (T : TX K mg w) (S : Says K) : FnC true (gq K) P w mg base fi_is_whole 1 (He.ga K "is_whole") sh_is_whole :=
  FnC.of (N := N_is_whole) (code := c_is_whole) (dfl := ([] : List D)) (S.says.def_ 6 (d := d_is_whole) rfl) rfl fs_is_whole (b_is_whole T S) (fun fd F => ⟨bnd0 F (fun _ _ _ _ _ _ us ws hu hw => match us, ws, hu, hw with | [_], [], _, _ => ⟨_, rfl, rfl⟩), trivial⟩)
abbrev sh_common_part : List (Nat × List Str) := [(2, [])]
abbrev N_common_part : List Str := ["many", "few"]
theorem fs_common_part : FnScope N_common_part ["many", "few"] (defScope st_common_part) := ⟨rfl, rfl, rfl, by decide +kernel, rfl, by decide +kernel, by decide +kernel⟩
theorem b_common_part (T : TX K mg w) (S : Says K) : ∀ X W, Ct (gq K) P w mg base 0 N_common_part (defScope st_common_part) true true true X W → SB (gq K) X W (defBody st_common_part) c_common_part := fun X W c =>
  sb_cons (ss_while (c.po rfl rfl) (st_cmp (ok_gt c.K c.hu64) (c.var rfl) se_int rfl) (sb_cons (c.par2 rfl rfl rfl rfl (so_cons rfl (c.var rfl) (so_cons rfl (se_bin ok_mod (c.var rfl) (c.var rfl)) so_nil))) sb_nil)) (sb_cons (ss_ret (c.var rfl)) sb_nil)
theorem ok_common_part (T : TX K mg w) (S : Says K) : FnC true (gq K) P w mg base fi_common_part 1 (He.ga K "common_part") sh_common_part :=
  FnC.of (N := N_common_part) (code := c_common_part) (dfl := ([] : List D)) (S.says.def_ 7 (d := d_common_part) rfl) rfl fs_common_part (b_common_part T S) (fun fd F => ⟨bnd0 F (fun _ _ _ _ _ _ us ws hu hw => match us, ws, hu, hw with | [_, _], [], _, _ => ⟨_, rfl, rfl⟩), trivial⟩)
abbrev sh_Measure___init__ : List (Nat × List Str) := [(3, [])]
abbrev N_Measure___init__ : List Str := ["self", "top", "bottom", "part"]
theorem fs_Measure___init__ : FnScope N_Measure___init__ ["self", "top", "bottom"] (defScope st_Measure___init__) := ⟨rfl, rfl, rfl, by decide +kernel, rfl, by decide +kernel, by decide +kernel⟩
theorem b_Measure___init__ (T : TX K mg w) (S : Says K) : ∀ X W, Ct (gq K) P w mg base 1 N_Measure___init__ (defScope st_Measure___init__) true true true X W → SB (gq K) X W (defBody st_Measure___init__) c_Measure___init__ := fun X W c =>
  sb_cons (ss_if (st_pw (sw_or (st_not (st_val (c.call T.toTb (ok_is_whole T S) rfl rfl rfl rfl rfl rfl (.cons rfl (sa_cons rfl (c.var rfl) sa_nil)) sk_nil) (fun _ => rfl))) (sw_one _ (st_not (st_val (c.call T.toTb (ok_is_whole T S) rfl rfl rfl rfl rfl rfl (.cons rfl (sa_cons rfl (c.var rfl) sa_nil)) sk_nil) (fun _ => rfl)))))) (sb_cons (c.raise T.toTb (xcf_ok S (c := 1) rfl) rfl rfl rfl) sb_nil) sb_nil) (sb_cons (ss_if (st_cmp (ok_eq c.K c.hu64) (c.var rfl) se_int rfl) (sb_cons (c.raise T.toTb (xcf_ok S (c := 2) rfl) rfl rfl rfl) sb_nil) sb_nil) (sb_cons (c.set rfl rfl (c.call T.toTb (ok_common_part T S) rfl rfl rfl rfl rfl rfl (.cons rfl (sa_cons rfl (c.callB T.toTb co_abs rfl rfl rfl rfl (sa_cons rfl (c.var rfl) sa_nil)) (sa_cons rfl (c.callB T.toTb co_abs rfl rfl rfl rfl (sa_cons rfl (c.var rfl) sa_nil)) sa_nil))) sk_nil)) (sb_cons (ss_if (st_cmp (ok_lt c.K c.hu64) (c.var rfl) se_int rfl) (sb_cons (c.set rfl rfl (se_bin ok_sub se_int (c.var rfl))) sb_nil) sb_nil) (sb_cons (c.fld (fldF S) (no_top S) (c.var rfl) (se_bin ok_fdiv (c.var rfl) (c.var rfl))) (sb_cons (c.fld (fldF S) (no_bottom S) (c.var rfl) (se_bin ok_fdiv (c.var rfl) (c.var rfl))) sb_nil)))))
theorem ok_Measure___init__ (T : TX K mg w) (S : Says K) : FnC true (gq K) P w mg base fi_Measure___init__ 2 (He.ma K (He.ga K "Measure") "__init__") sh_Measure___init__ :=
  FnC.of (N := N_Measure___init__) (code := c_Measure___init__) (dfl := ([.int 1] : List D)) (S.says.def_ 8 (d := d_Measure___init__) rfl) rfl fs_Measure___init__ (b_Measure___init__ T S) (fun fd F => ⟨bnd1 F (by intro h; cases h) (fun _ _ _ _ _ _ _ us its ws hu hi hw => match us, its, ws, hu, hi, hw with | [_, _, _], [_], [], _, _, _ => ⟨_, rfl, _, rfl, rfl⟩), trivial⟩)
abbrev sh_Measure___str__ : List (Nat × List Str) := [(1, [])]
abbrev N_Measure___str__ : List Str := ["self", "sign", "whole", "rest"]
theorem fs_Measure___str__ : FnScope N_Measure___str__ ["self"] (defScope st_Measure___str__) := ⟨rfl, rfl, rfl, by decide +kernel, rfl, by decide +kernel, by decide +kernel⟩
theorem b_Measure___str__ (T : TX K mg w) (S : Says K) : ∀ X W, Ct (gq K) P w mg base 0 N_Measure___str__ (defScope st_Measure___str__) true true true X W → SB (gq K) X W (defBody st_Measure___str__) c_Measure___str__ := fun X W c =>
  sb_cons (c.set rfl rfl (se_if (st_cmp (ok_lt c.K c.hu64) (c.attr (fldF S) (no_top S) (c.var rfl) rfl) se_int rfl) se_str se_str)) (sb_cons (c.tupS (.cons rfl (c.sgName rfl) (.cons rfl (c.sgName rfl) .nil)) rfl (c.callB T.toTb co_divmod rfl rfl rfl rfl (sa_cons rfl (c.callB T.toTb co_abs rfl rfl rfl rfl (sa_cons rfl (c.attr (fldF S) (no_top S) (c.var rfl) rfl) sa_nil)) (sa_cons rfl (c.attr (fldF S) (no_bottom S) (c.var rfl) rfl) sa_nil)))) (sb_cons (ss_if (st_cmp (ok_eq c.K c.hu64) (c.var rfl) se_int rfl) (sb_cons (ss_ret (se_join (SJ.cons (se_fmt (c.var rfl)) (SJ.cons (se_fmt (c.var rfl)) SJ.nil)))) sb_nil) sb_nil) (sb_cons (ss_if (st_cmp (ok_eq c.K c.hu64) (c.var rfl) se_int rfl) (sb_cons (ss_ret (se_join (SJ.cons (se_fmt (c.var rfl)) (SJ.cons (se_fmt (c.var rfl)) (SJ.cons se_str (SJ.cons (se_fmt (c.attr (fldF S) (no_bottom S) (c.var rfl) rfl)) SJ.nil)))))) sb_nil) sb_nil) (sb_cons (ss_ret (se_join (SJ.cons (se_fmt (c.var rfl)) (SJ.cons (se_fmt (c.var rfl)) (SJ.cons se_str (SJ.cons (se_fmt (c.var rfl)) (SJ.cons se_str (SJ.cons (se_fmt (c.attr (fldF S) (no_bottom S) (c.var rfl) rfl)) SJ.nil)))))))) sb_nil))))
theorem ok_Measure___str__ (T : TX K mg w) (S : Says K) : FnC true (gq K) P w mg base fi_Measure___str__ 1 (He.ma K (He.ga K "Measure") "__str__") sh_Measure___str__ :=
  FnC.of (N := N_Measure___str__) (code := c_Measure___str__) (dfl := ([] : List D)) (S.says.def_ 9 (d := d_Measure___str__) rfl) rfl fs_Measure___str__ (b_Measure___str__ T S) (fun fd F => ⟨bnd0 F (fun _ _ _ _ _ _ us ws hu hw => match us, ws, hu, hw with | [_], [], _, _ => ⟨_, rfl, rfl⟩), trivial⟩)
theorem spc_str_Measure_ (T : TX K mg w) (S : Says K) : ∀ c fi, sp_str_Measure c = some fi → ∃ f, FnC true (gq K) P w mg base fi 1 f [(1, [])] ∧ PySem.W.findIn (gq K).K (.ref ((gq K).cad c)) "__str__" = some (some (.ref f)) ∧ PySem.W.isFn (gq K).K (.ref f) = true ∧ fi.ps.length = 1
  | 0, fi, h => by
    cases h
    have M := He.meth_ok (rest_ok S.says 4 rfl)
    exact ⟨_, ((ok_Measure___str__ T S).sub 1 rfl (by decide +kernel)).gd rfl, M.at_, M.fn, rfl⟩
  | n + 1, fi, h => by cases h
theorem spc_str_Measure (T : TX K mg w) (S : Says K) : SpC true (gq K) P w mg base "__str__" sp_str_Measure 1 := ⟨spc_str_Measure_ T S⟩
abbrev sh_measure_in : List (Nat × List Str) := [(1, [])]
abbrev N_measure_in : List Str := ["text", "below", "numbers", "found"]
theorem fs_measure_in : FnScope N_measure_in ["text"] (defScope st_measure_in) := ⟨rfl, rfl, rfl, by decide +kernel, rfl, by decide +kernel, by decide +kernel⟩
theorem b_measure_in (T : TX K mg w) (S : Says K) : ∀ X W, Ct (gq K) P w mg base 3 N_measure_in (defScope st_measure_in) true true true X W → SB (gq K) X W (defBody st_measure_in) c_measure_in := fun X W c =>
  sb_cons (c.set rfl rfl (se_cmp (ok_eq c.K c.hu64) (se_slice c.K (c.var rfl) so_none (so_some se_int)) se_str rfl)) (sb_cons (c.set rfl rfl (c.call T.toTb (ok_written_in T S) rfl rfl rfl rfl rfl rfl (.cons rfl (sa_cons rfl (se_if (st_val (c.var rfl) (fun _ => rfl)) (se_slice c.K (c.var rfl) (so_some se_int) so_none) (c.var rfl)) sa_nil)) sk_nil)) (sb_cons (ss_if (st_cmp ok_is (c.var rfl) se_non rfl) (sb_cons (ss_ret se_non) sb_nil) sb_nil) (sb_cons (c.set rfl rfl (c.make T.toTb (ok_Measure___init__ T S) rfl (mkr_Measure S) rfl rfl rfl rfl rfl rfl rfl (.cons rfl (sa_cons rfl (se_if (st_val (c.var rfl) (fun _ => rfl)) (se_bin ok_sub se_int (se_ix c.K (c.var rfl) se_int rfl)) (se_ix c.K (c.var rfl) se_int rfl)) (sa_cons rfl (se_ix c.K (c.var rfl) se_int rfl) sa_nil))) sk_nil)) (sb_cons (ss_ret (se_if (st_cmp (ok_eq c.K c.hu64) (c.callTy T.toTb (c.strO (spc_str_Measure T S) rfl rfl) rfl rfl rfl rfl (sa_cons rfl (c.var rfl) sa_nil)) (c.var rfl) rfl) (c.var rfl) se_non)) sb_nil))))
theorem ok_measure_in (T : TX K mg w) (S : Says K) : FnC true (gq K) P w mg base fi_measure_in 4 (He.ga K "measure_in") sh_measure_in :=
  FnC.of (N := N_measure_in) (code := c_measure_in) (dfl := ([] : List D)) (S.says.def_ 10 (d := d_measure_in) rfl) rfl fs_measure_in (b_measure_in T S) (fun fd F => ⟨bnd0 F (fun _ _ _ _ _ _ us ws hu hw => match us, ws, hu, hw with | [_], [], _, _ => ⟨_, rfl, rfl⟩), trivial⟩)
abbrev sh_read_measure : List (Nat × List Str) := [(0, ["text"]), (1, [])]
abbrev N_read_measure : List Str := ["text", "found"]
theorem fs_read_measure : FnScope N_read_measure ["text"] (defScope st_read_measure) := ⟨rfl, rfl, rfl, by decide +kernel, rfl, by decide +kernel, by decide +kernel⟩
theorem b_read_measure (T : TX K mg w) (S : Says K) : ∀ X W, Ct (gq K) P w mg base 4 N_read_measure (defScope st_read_measure) true true true X W → SB (gq K) X W (defBody st_read_measure) c_read_measure := fun X W c =>
  sb_cons (ss_if (st_not (st_val (c.callB T.toTb (co_isi c.K (kitF S)) rfl rfl rfl rfl (sa_cons rfl (c.var rfl) (sa_cons rfl (c.tyName T.toTb rfl rfl rfl) sa_nil))) (fun _ => rfl))) (sb_cons (c.raise T.toTb (xcf_ok S (c := 1) rfl) rfl rfl rfl) sb_nil) sb_nil) (sb_cons (c.set rfl rfl (c.call T.toTb (ok_measure_in T S) rfl rfl rfl rfl rfl rfl (.cons rfl (sa_cons rfl (c.var rfl) sa_nil)) sk_nil)) (sb_cons (ss_if (st_cmp ok_is (c.var rfl) se_non rfl) (sb_cons (c.raise T.toTb (xcf_ok S (c := 1) rfl) rfl rfl rfl) sb_nil) sb_nil) (sb_cons (ss_ret (c.var rfl)) sb_nil)))
theorem ok_read_measure (T : TX K mg w) (S : Says K) : FnC true (gq K) P w mg base fi_read_measure 5 (He.ga K "read_measure") sh_read_measure :=
  FnC.of (N := N_read_measure) (code := c_read_measure) (dfl := ([] : List D)) (S.says.def_ 11 (d := d_read_measure) rfl) rfl fs_read_measure (b_read_measure T S) (fun fd F => ⟨bnd0 F (fun _ _ _ _ _ _ us ws hu hw => match us, ws, hu, hw with | [], [_], _, _ => ⟨_, rfl, rfl⟩), ⟨bnd0 F (fun _ _ _ _ _ _ us ws hu hw => match us, ws, hu, hw with | [_], [], _, _ => ⟨_, rfl, rfl⟩), trivial⟩⟩)
abbrev sh_l_is : List (Nat × List Str) := [(3, [])]
abbrev N_l_is : List Str := ["_law_found", "_law_top", "_law_bottom"]
theorem fs_l_is : FnScope N_l_is ["_law_found", "_law_top", "_law_bottom"] (defScope st_l_is) := ⟨rfl, rfl, rfl, by decide +kernel, rfl, by decide +kernel, by decide +kernel⟩
theorem b_l_is (T : TX K mg w) (S : Says K) : ∀ X W, Ct (gq K) P w mg base 1 N_l_is (defScope st_l_is) true true true X W → SB (gq K) X W (defBody st_l_is) c_l_is := fun X W c =>
  sb_cons (ss_if (st_pw (sw_or (st_not (st_val (c.callB T.toTb (co_isi c.K (kitF S)) rfl rfl rfl rfl (sa_cons rfl (c.var rfl) (sa_cons rfl (c.clsName T.toTb rfl rfl rfl) sa_nil))) (fun _ => rfl))) (sw_or (st_not (st_val (c.callB T.toTb (co_isi c.K (kitF S)) rfl rfl rfl rfl (sa_cons rfl (c.attr (fldF S) (no_top S) (c.var rfl) rfl) (sa_cons rfl (c.tyName T.toTb rfl rfl rfl) sa_nil))) (fun _ => rfl))) (sw_one _ (st_not (st_val (c.callB T.toTb (co_isi c.K (kitF S)) rfl rfl rfl rfl (sa_cons rfl (c.attr (fldF S) (no_bottom S) (c.var rfl) rfl) (sa_cons rfl (c.tyName T.toTb rfl rfl rfl) sa_nil))) (fun _ => rfl))))))) (sb_cons (ss_ret se_bl) sb_nil) sb_nil) (sb_cons (ss_if (st_pw (sw_or (st_val (c.callB T.toTb (co_isi c.K (kitF S)) rfl rfl rfl rfl (sa_cons rfl (c.attr (fldF S) (no_top S) (c.var rfl) rfl) (sa_cons rfl (c.tyName T.toTb rfl rfl rfl) sa_nil))) (fun _ => rfl)) (sw_or (st_val (c.callB T.toTb (co_isi c.K (kitF S)) rfl rfl rfl rfl (sa_cons rfl (c.attr (fldF S) (no_bottom S) (c.var rfl) rfl) (sa_cons rfl (c.tyName T.toTb rfl rfl rfl) sa_nil))) (fun _ => rfl)) (sw_one _ (st_cmp (ok_lt c.K c.hu64) (c.attr (fldF S) (no_bottom S) (c.var rfl) rfl) se_int rfl))))) (sb_cons (ss_ret se_bl) sb_nil) sb_nil) (sb_cons (ss_ret (se_and (se_cmp (ok_eq c.K c.hu64) (se_bin ok_mul (c.attr (fldF S) (no_top S) (c.var rfl) rfl) (c.var rfl)) (se_bin ok_mul (c.var rfl) (c.attr (fldF S) (no_bottom S) (c.var rfl) rfl)) rfl) (se_one (se_cmp (ok_eq c.K c.hu64) (c.call T.toTb (ok_l_common T S) rfl rfl rfl rfl rfl rfl (.cons rfl (sa_cons rfl (c.callB T.toTb co_abs rfl rfl rfl rfl (sa_cons rfl (c.attr (fldF S) (no_top S) (c.var rfl) rfl) sa_nil)) (sa_cons rfl (c.attr (fldF S) (no_bottom S) (c.var rfl) rfl) sa_nil))) sk_nil) se_int rfl)))) sb_nil))
theorem ok_l_is (T : TX K mg w) (S : Says K) : FnC true (gq K) P w mg base fi_l_is 2 (He.ga K "_law_is") sh_l_is :=
  FnC.of (N := N_l_is) (code := c_l_is) (dfl := ([] : List D)) (S.says.def_ 12 (d := d_l_is) rfl) rfl fs_l_is (b_l_is T S) (fun fd F => ⟨bnd0 F (fun _ _ _ _ _ _ us ws hu hw => match us, ws, hu, hw with | [_, _, _], [], _, _ => ⟨_, rfl, rfl⟩), trivial⟩)
abbrev sh_l_right : List (Nat × List Str) := [(1, [])]
abbrev N_l_right : List Str := ["_law_line", "_law_due", "_law_found", "e", "_law_others"]
theorem fs_l_right : FnScope N_l_right ["_law_line"] (defScope st_l_right) := ⟨rfl, rfl, rfl, by decide +kernel, rfl, by decide +kernel, by decide +kernel⟩
theorem b_l_right (T : TX K mg w) (S : Says K) : ∀ X W, Ct (gq K) P w mg base 5 N_l_right (defScope st_l_right) true true true X W → SB (gq K) X W (defBody st_l_right) c_l_right := fun X W c =>
  sb_cons (c.par2 rfl rfl rfl rfl (so_cons rfl (c.call T.toTb (ok_l_read T S) rfl rfl rfl rfl rfl rfl (.cons rfl (sa_cons rfl (c.var rfl) sa_nil)) sk_nil) (so_cons rfl se_non so_nil))) (sb_cons (c.try_ (xt_exm (xtS S)) (fun X W c => sb_cons (c.set rfl rfl (se_if (st_cmp (ok_eq c.K c.hu64) (se_bin ok_mod (c.callB T.toTb (co_len c.K) rfl rfl rfl rfl (sa_cons rfl (c.var rfl) sa_nil)) se_int) se_int rfl) (c.call T.toTb (ok_read_measure T S) rfl rfl rfl rfl rfl rfl .nil (sk_cons (c.var rfl) sk_nil)) (c.call T.toTb (ok_read_measure T S) rfl rfl rfl rfl rfl rfl (.cons rfl (sa_cons rfl (c.var rfl) sa_nil)) sk_nil))) sb_nil) (.name (c.names T.toTb rfl rfl rfl) rfl (fun X W c => sb_cons (c.set rfl rfl (c.callB T.toTb (co_isiY c.K (xt_isiY (xtS S) (xiS S)) (co_isi c.K (kitF S))) rfl rfl rfl rfl (sa_cons rfl (c.var rfl) (sa_cons rfl (se_tup (sa_cons rfl (c.clsName T.toTb rfl rfl rfl) (sa_cons rfl (c.clsName T.toTb rfl rfl rfl) (sa_cons rfl (c.clsName T.toTb rfl rfl rfl) (sa_cons rfl (c.clsName T.toTb rfl rfl rfl) (sa_cons rfl (c.clsName T.toTb rfl rfl rfl) sa_nil)))))) sa_nil)))) (sb_cons (ss_ret (se_and (se_cmp ok_is (c.var rfl) se_non rfl) (se_and (c.callB T.toTb (co_isiY c.K (xt_isiY (xtS S) (xiS S)) (co_isi c.K (kitF S))) rfl rfl rfl rfl (sa_cons rfl (c.var rfl) (sa_cons rfl (c.clsName T.toTb rfl rfl rfl) sa_nil))) (se_and (c.callB T.toTb (co_isiY c.K (xt_isiY (xtS S) (xiS S)) (co_isi c.K (kitF S))) rfl rfl rfl rfl (sa_cons rfl (c.var rfl) (sa_cons rfl (c.tyName T.toTb rfl rfl rfl) sa_nil))) (se_one (se_not (c.var rfl))))))) sb_nil)) .nil)) (sb_cons (ss_ret (se_and (se_cmp ok_isnot (c.var rfl) se_non rfl) (se_and (c.call T.toTb (ok_l_is T S) rfl rfl rfl rfl rfl rfl (.cons rfl (sa_cons rfl (c.var rfl) (sa_cons rfl (se_ix c.K (c.var rfl) se_int rfl) (sa_cons rfl (se_ix c.K (c.var rfl) se_int rfl) sa_nil)))) sk_nil) (se_one (se_cmp (ok_eq c.K c.hu64) (c.callTy T.toTb (c.strO (spc_str_Measure T S) rfl rfl) rfl rfl rfl rfl (sa_cons rfl (c.var rfl) sa_nil)) (c.var rfl) rfl))))) sb_nil))
theorem ok_l_right (T : TX K mg w) (S : Says K) : FnC true (gq K) P w mg base fi_l_right 6 (He.ga K "_law_right") sh_l_right :=
  FnC.of (N := N_l_right) (code := c_l_right) (dfl := ([] : List D)) (S.says.def_ 13 (d := d_l_right) rfl) rfl fs_l_right (b_l_right T S) (fun fd F => ⟨bnd0 F (fun _ _ _ _ _ _ us ws hu hw => match us, ws, hu, hw with | [_], [], _, _ => ⟨_, rfl, rfl⟩), trivial⟩)
abbrev sh_l_hand_of : List (Nat × List Str) := [(2, [])]
abbrev N_l_hand_of : List Str := ["_law_script", "_law_k", "_law_cell", "_law_seed"]
theorem fs_l_hand_of : FnScope N_l_hand_of ["_law_script", "_law_k"] (defScope st_l_hand_of) := ⟨rfl, rfl, rfl, by decide +kernel, rfl, by decide +kernel, by decide +kernel⟩
theorem b_l_hand_of (T : TX K mg w) (S : Says K) : ∀ X W, Ct (gq K) P w mg base 0 N_l_hand_of (defScope st_l_hand_of) true true true X W → SB (gq K) X W (defBody st_l_hand_of) c_l_hand_of := fun X W c =>
  sb_cons (c.set rfl rfl se_int) (sb_cons (ss_if (st_cmp (ok_lt c.K c.hu64) (c.var rfl) (c.callB T.toTb (co_len c.K) rfl rfl rfl rfl (sa_cons rfl (c.var rfl) sa_nil)) rfl) (sb_cons (c.set rfl rfl (se_ix c.K (c.var rfl) (c.var rfl) rfl)) sb_nil) sb_nil) (sb_cons (c.set rfl rfl (se_bin ok_mod (se_bin (ok_add c.K) (se_bin (ok_add c.K) (se_bin ok_mod (c.var rfl) se_int) (se_bin ok_mul se_int (c.var rfl))) se_int) se_int)) (sb_cons (ss_ret (se_lst (sa_cons rfl (se_bin ok_mul (c.var rfl) (c.callTy T.toTb co_int rfl rfl rfl rfl (sa_cons rfl (se_cmp ok_ge (c.var rfl) (se_bin ok_pow se_int se_int) rfl) sa_nil))) (sa_cons rfl (c.var rfl) (sa_cons rfl se_int sa_nil))))) sb_nil)))
theorem ok_l_hand_of (T : TX K mg w) (S : Says K) : FnC true (gq K) P w mg base fi_l_hand_of 1 (He.ga K "_law_hand_of") sh_l_hand_of :=
  FnC.of (N := N_l_hand_of) (code := c_l_hand_of) (dfl := ([] : List D)) (S.says.def_ 14 (d := d_l_hand_of) rfl) rfl fs_l_hand_of (b_l_hand_of T S) (fun fd F => ⟨bnd0 F (fun _ _ _ _ _ _ us ws hu hw => match us, ws, hu, hw with | [_, _], [], _, _ => ⟨_, rfl, rfl⟩), trivial⟩)
abbrev sh_l_nest : List (Nat × List Str) := [(1, [])]
abbrev N_l_nest : List Str := ["_law_deep", "_law_thing", "_law_turn"]
theorem fs_l_nest : FnScope N_l_nest ["_law_deep"] (defScope st_l_nest) := ⟨rfl, rfl, rfl, by decide +kernel, rfl, by decide +kernel, by decide +kernel⟩
theorem b_l_nest (T : TX K mg w) (S : Says K) : ∀ X W, Ct (gq K) P w mg base 0 N_l_nest (defScope st_l_nest) true true true X W → SB (gq K) X W (defBody st_l_nest) c_l_nest := fun X W c =>
  sb_cons (c.set rfl rfl se_int) (sb_cons (ss_for (c.po rfl rfl) (c.calm rfl) (si_range1 (c.gl rfl).1 (by rw [c.hmg]; exact T.fr _ rfl) rfl (c.var rfl)) (sl := [2]) (c.sgName rfl) (sb_cons (c.set rfl rfl (se_ix c.K (se_lst (sa_cons rfl (se_tup (sa_cons rfl (c.var rfl) sa_nil)) (sa_cons rfl (se_lst (sa_cons rfl (c.var rfl) sa_nil)) (sa_cons rfl (se_tup (sa_cons rfl (c.var rfl) (sa_cons rfl se_int sa_nil))) sa_nil)))) (se_bin ok_mod (c.var rfl) se_int) rfl)) sb_nil) rfl) (sb_cons (ss_ret (c.var rfl)) sb_nil))
theorem ok_l_nest (T : TX K mg w) (S : Says K) : FnC true (gq K) P w mg base fi_l_nest 1 (He.ga K "_law_nest") sh_l_nest :=
  FnC.of (N := N_l_nest) (code := c_l_nest) (dfl := ([] : List D)) (S.says.def_ 15 (d := d_l_nest) rfl) rfl fs_l_nest (b_l_nest T S) (fun fd F => ⟨bnd0 F (fun _ _ _ _ _ _ us ws hu hw => match us, ws, hu, hw with | [_], [], _, _ => ⟨_, rfl, rfl⟩), trivial⟩)
abbrev sh_l_take : List (Nat × List Str) := [(2, [])]
abbrev N_l_take : List Str := ["_law_hand", "_law_many", "_law_digit", "_law_stirred"]
theorem fs_l_take : FnScope N_l_take ["_law_hand", "_law_many"] (defScope st_l_take) := ⟨rfl, rfl, rfl, by decide +kernel, rfl, by decide +kernel, by decide +kernel⟩
theorem b_l_take (T : TX K mg w) (S : Says K) : ∀ X W, Ct (gq K) P w mg base 0 N_l_take (defScope st_l_take) true true true X W → SB (gq K) X W (defBody st_l_take) c_l_take := fun X W c =>
  sb_cons (ss_if (st_cmp (ok_gt c.K c.hu64) (se_ix c.K (c.var rfl) se_int rfl) se_int rfl) (sb_cons (c.set rfl rfl (se_bin ok_mod (se_ix c.K (c.var rfl) se_int rfl) (c.var rfl))) (sb_cons (c.subS rfl (c.var rfl) se_int rfl (se_bin ok_fdiv (se_ix c.K (c.var rfl) se_int rfl) (c.var rfl))) (sb_cons (ss_ret (c.var rfl)) sb_nil))) sb_nil) (sb_cons (c.subS rfl (c.var rfl) se_int rfl (se_bin (ok_add c.K) (se_ix c.K (c.var rfl) se_int rfl) se_int)) (sb_cons (c.set rfl rfl (se_bin ok_mod (se_bin ok_pow (se_bin (ok_add c.K) (se_bin (ok_add c.K) (se_ix c.K (c.var rfl) se_int rfl) (se_bin ok_mul (se_bin ok_mul se_int (se_ix c.K (c.var rfl) se_int rfl)) (se_ix c.K (c.var rfl) se_int rfl))) se_int) se_int) se_int)) (sb_cons (c.set rfl rfl (se_bin ok_mod (se_bin ok_mul (c.var rfl) (se_bin (ok_add c.K) (se_bin ok_mod (c.var rfl) se_int) (se_bin ok_mul se_int (se_ix c.K (c.var rfl) se_int rfl)))) se_int)) (sb_cons (ss_ret (se_bin ok_mod (se_bin (ok_add c.K) (se_bin ok_fdiv (c.var rfl) se_int) (se_bin ok_fdiv (c.var rfl) se_int)) (c.var rfl))) sb_nil))))
theorem ok_l_take (T : TX K mg w) (S : Says K) : FnC true (gq K) P w mg base fi_l_take 1 (He.ga K "_law_take") sh_l_take :=
  FnC.of (N := N_l_take) (code := c_l_take) (dfl := ([] : List D)) (S.says.def_ 16 (d := d_l_take) rfl) rfl fs_l_take (b_l_take T S) (fun fd F => ⟨bnd0 F (fun _ _ _ _ _ _ us ws hu hw => match us, ws, hu, hw with | [_, _], [], _, _ => ⟨_, rfl, rfl⟩), trivial⟩)
abbrev sh_l_any_thing : List (Nat × List Str) := [(1, [])]
abbrev N_l_any_thing : List Str := ["_law_hand", "_law_some"]
theorem fs_l_any_thing : FnScope N_l_any_thing ["_law_hand"] (defScope st_l_any_thing) := ⟨rfl, rfl, rfl, by decide +kernel, rfl, by decide +kernel, by decide +kernel⟩
theorem b_l_any_thing (T : TX K mg w) (S : Says K) : ∀ X W, Ct (gq K) P w mg base 1 N_l_any_thing (defScope st_l_any_thing) true true true X W → SB (gq K) X W (defBody st_l_any_thing) c_l_any_thing := fun X W c =>
  sb_cons (c.set rfl rfl (se_lst (sa_cons rfl se_non (sa_cons rfl se_bl (sa_cons rfl se_bl (sa_cons rfl (se_tup sa_nil) (sa_cons rfl (se_tup (sa_cons rfl se_int sa_nil)) (sa_cons rfl (se_lst sa_nil) (sa_cons rfl (se_lst (sa_cons rfl se_int sa_nil)) (sa_cons rfl se_dic0 (sa_cons rfl (se_dic1 pe_int pe_int (fun F => by unfold Rep; rfl)) (sa_cons rfl (se_lst (sa_cons rfl (se_tup (sa_cons rfl se_int sa_nil)) sa_nil)) (sa_cons rfl (se_tup (sa_cons rfl se_int (sa_cons rfl se_int sa_nil))) (sa_cons rfl (se_tup (sa_cons rfl se_non (sa_cons rfl se_int sa_nil))) (sa_cons rfl (se_lst (sa_cons rfl (se_lst (sa_cons rfl se_int sa_nil)) (sa_cons rfl se_int sa_nil))) sa_nil))))))))))))))) (sb_cons (ss_ret (se_ix c.K (se_bin (ok_add c.K) (c.var rfl) (se_lst (sa_cons rfl (c.call T.toTb (ok_l_nest T S) rfl rfl rfl rfl rfl rfl (.cons rfl (sa_cons rfl se_int sa_nil)) sk_nil) (sa_cons rfl (c.call T.toTb (ok_l_nest T S) rfl rfl rfl rfl rfl rfl (.cons rfl (sa_cons rfl (se_bin (ok_add c.K) se_int (c.call T.toTb (ok_l_take T S) rfl rfl rfl rfl rfl rfl (.cons rfl (sa_cons rfl (c.var rfl) (sa_cons rfl se_int sa_nil))) sk_nil)) sa_nil)) sk_nil) sa_nil)))) (c.call T.toTb (ok_l_take T S) rfl rfl rfl rfl rfl rfl (.cons rfl (sa_cons rfl (c.var rfl) (sa_cons rfl se_int sa_nil))) sk_nil) rfl)) sb_nil)
theorem ok_l_any_thing (T : TX K mg w) (S : Says K) : FnC true (gq K) P w mg base fi_l_any_thing 2 (He.ga K "_law_any_thing") sh_l_any_thing :=
  FnC.of (N := N_l_any_thing) (code := c_l_any_thing) (dfl := ([] : List D)) (S.says.def_ 17 (d := d_l_any_thing) rfl) rfl fs_l_any_thing (b_l_any_thing T S) (fun fd F => ⟨bnd0 F (fun _ _ _ _ _ _ us ws hu hw => match us, ws, hu, hw with | [_], [], _, _ => ⟨_, rfl, rfl⟩), trivial⟩)
abbrev sh_l_number_of : List (Nat × List Str) := [(1, [])]
abbrev N_l_number_of : List Str := ["_law_hand", "_law_size", "_law_least"]
theorem fs_l_number_of : FnScope N_l_number_of ["_law_hand"] (defScope st_l_number_of) := ⟨rfl, rfl, rfl, by decide +kernel, rfl, by decide +kernel, by decide +kernel⟩
theorem b_l_number_of (T : TX K mg w) (S : Says K) : ∀ X W, Ct (gq K) P w mg base 1 N_l_number_of (defScope st_l_number_of) true true true X W → SB (gq K) X W (defBody st_l_number_of) c_l_number_of := fun X W c =>
  sb_cons (c.set rfl rfl (se_ix c.K (se_lst (sa_cons rfl se_int (sa_cons rfl se_int (sa_cons rfl se_int (sa_cons rfl se_int (sa_cons rfl se_int (sa_cons rfl se_int (sa_cons rfl se_int (sa_cons rfl se_int sa_nil))))))))) (c.call T.toTb (ok_l_take T S) rfl rfl rfl rfl rfl rfl (.cons rfl (sa_cons rfl (c.var rfl) (sa_cons rfl se_int sa_nil))) sk_nil) rfl)) (sb_cons (c.set rfl rfl (c.callTy T.toTb co_int rfl rfl rfl rfl (sa_cons rfl (se_bin (ok_add c.K) se_str (se_bin ok_mulR se_str (se_bin ok_sub (c.var rfl) se_int))) sa_nil))) (sb_cons (ss_ret (se_ix c.K (se_lst (sa_cons rfl (se_bin ok_sub (se_bin ok_mul se_int (c.var rfl)) se_int) (sa_cons rfl (c.var rfl) (sa_cons rfl (se_bin (ok_add c.K) (c.var rfl) (c.call T.toTb (ok_l_take T S) rfl rfl rfl rfl rfl rfl (.cons rfl (sa_cons rfl (c.var rfl) (sa_cons rfl (se_bin ok_mul se_int (c.var rfl)) sa_nil))) sk_nil)) sa_nil)))) (c.call T.toTb (ok_l_take T S) rfl rfl rfl rfl rfl rfl (.cons rfl (sa_cons rfl (c.var rfl) (sa_cons rfl se_int sa_nil))) sk_nil) rfl)) sb_nil))
theorem ok_l_number_of (T : TX K mg w) (S : Says K) : FnC true (gq K) P w mg base fi_l_number_of 2 (He.ga K "_law_number_of") sh_l_number_of :=
  FnC.of (N := N_l_number_of) (code := c_l_number_of) (dfl := ([] : List D)) (S.says.def_ 18 (d := d_l_number_of) rfl) rfl fs_l_number_of (b_l_number_of T S) (fun fd F => ⟨bnd0 F (fun _ _ _ _ _ _ us ws hu hw => match us, ws, hu, hw with | [_], [], _, _ => ⟨_, rfl, rfl⟩), trivial⟩)
abbrev sh_l_text_of : List (Nat × List Str) := [(1, [])]
abbrev N_l_text_of : List Str := ["_law_hand", "_law_form", "_law_whole", "_law_top", "_law_more", "_law_sign", "_law_part", "_law_rest"]
theorem fs_l_text_of : FnScope N_l_text_of ["_law_hand"] (defScope st_l_text_of) := ⟨rfl, rfl, rfl, by decide +kernel, rfl, by decide +kernel, by decide +kernel⟩
theorem b_l_text_of (T : TX K mg w) (S : Says K) : ∀ X W, Ct (gq K) P w mg base 2 N_l_text_of (defScope st_l_text_of) true true true X W → SB (gq K) X W (defBody st_l_text_of) c_l_text_of := fun X W c =>
  sb_cons (c.tupT (.cons rfl (c.sgName rfl) (.cons rfl (c.sgName rfl) (.cons rfl (c.sgName rfl) (.cons rfl (c.sgName rfl) .nil)))) rfl (se_tup (sa_cons rfl (c.call T.toTb (ok_l_take T S) rfl rfl rfl rfl rfl rfl (.cons rfl (sa_cons rfl (c.var rfl) (sa_cons rfl se_int sa_nil))) sk_nil) (sa_cons rfl (c.call T.toTb (ok_l_number_of T S) rfl rfl rfl rfl rfl rfl (.cons rfl (sa_cons rfl (c.var rfl) sa_nil)) sk_nil) (sa_cons rfl (c.call T.toTb (ok_l_number_of T S) rfl rfl rfl rfl rfl rfl (.cons rfl (sa_cons rfl (c.var rfl) sa_nil)) sk_nil) (sa_cons rfl (c.call T.toTb (ok_l_number_of T S) rfl rfl rfl rfl rfl rfl (.cons rfl (sa_cons rfl (c.var rfl) sa_nil)) sk_nil) sa_nil)))))) (sb_cons (c.set rfl rfl (se_ix c.K (se_lst (sa_cons rfl se_str (sa_cons rfl se_str (sa_cons rfl se_str sa_nil)))) (c.call T.toTb (ok_l_take T S) rfl rfl rfl rfl rfl rfl (.cons rfl (sa_cons rfl (c.var rfl) (sa_cons rfl se_int sa_nil))) sk_nil) rfl)) (sb_cons (c.set rfl rfl (c.call T.toTb (ok_l_common T S) rfl rfl rfl rfl rfl rfl (.cons rfl (sa_cons rfl (c.var rfl) (sa_cons rfl (se_bin (ok_add c.K) (c.var rfl) (c.var rfl)) sa_nil))) sk_nil)) (sb_cons (c.set rfl rfl (se_bin (ok_add c.K) (se_bin (ok_add c.K) (c.callTy T.toTb co_str rfl rfl rfl rfl (sa_cons rfl (se_bin ok_fdiv (c.var rfl) (c.var rfl)) sa_nil)) se_str) (c.callTy T.toTb co_str rfl rfl rfl rfl (sa_cons rfl (se_bin ok_fdiv (se_bin (ok_add c.K) (c.var rfl) (c.var rfl)) (c.var rfl)) sa_nil)))) (sb_cons (ss_ret (se_bin (ok_add c.K) (c.var rfl) (se_ix c.K (se_lst (sa_cons rfl (c.callTy T.toTb co_str rfl rfl rfl rfl (sa_cons rfl (c.var rfl) sa_nil)) (sa_cons rfl (c.var rfl) (sa_cons rfl (se_bin (ok_add c.K) (se_bin (ok_add c.K) (c.callTy T.toTb co_str rfl rfl rfl rfl (sa_cons rfl (c.var rfl) sa_nil)) se_str) (c.var rfl)) (sa_cons rfl se_str sa_nil))))) (c.var rfl) rfl))) sb_nil))))
theorem ok_l_text_of (T : TX K mg w) (S : Says K) : FnC true (gq K) P w mg base fi_l_text_of 3 (He.ga K "_law_text_of") sh_l_text_of :=
  FnC.of (N := N_l_text_of) (code := c_l_text_of) (dfl := ([] : List D)) (S.says.def_ 19 (d := d_l_text_of) rfl) rfl fs_l_text_of (b_l_text_of T S) (fun fd F => ⟨bnd0 F (fun _ _ _ _ _ _ us ws hu hw => match us, ws, hu, hw with | [_], [], _, _ => ⟨_, rfl, rfl⟩), trivial⟩)
abbrev sh_l_refused : List (Nat × List Str) := [(1, [])]
abbrev N_l_refused : List Str := ["_law_thing", "_law_refused_here"]
theorem fs_l_refused : FnScope N_l_refused ["_law_thing"] (defScope st_l_refused) := ⟨rfl, rfl, rfl, by decide +kernel, rfl, by decide +kernel, by decide +kernel⟩
theorem b_l_refused (T : TX K mg w) (S : Says K) : ∀ X W, Ct (gq K) P w mg base 5 N_l_refused (defScope st_l_refused) true true true X W → SB (gq K) X W (defBody st_l_refused) c_l_refused := fun X W c =>
  sb_cons (c.set rfl rfl se_bl) (sb_cons (c.try_ (xt_exm (xtS S)) (fun X W c => sb_cons (ss_expr (c.call T.toTb (ok_read_measure T S) rfl rfl rfl rfl rfl rfl (.cons rfl (sa_cons rfl (c.var rfl) sa_nil)) sk_nil) rfl) sb_nil) (.anon (c.names T.toTb rfl rfl rfl) (fun X W c => sb_cons (c.set rfl rfl se_bl) sb_nil) .nil)) (sb_cons (ss_ret (c.var rfl)) sb_nil))
theorem ok_l_refused (T : TX K mg w) (S : Says K) : FnC true (gq K) P w mg base fi_l_refused 6 (He.ga K "_law_refused") sh_l_refused :=
  FnC.of (N := N_l_refused) (code := c_l_refused) (dfl := ([] : List D)) (S.says.def_ 20 (d := d_l_refused) rfl) rfl fs_l_refused (b_l_refused T S) (fun fd F => ⟨bnd0 F (fun _ _ _ _ _ _ us ws hu hw => match us, ws, hu, hw with | [_], [], _, _ => ⟨_, rfl, rfl⟩), trivial⟩)
abbrev sh_l_bent : List (Nat × List Str) := [(2, [])]
abbrev N_l_bent : List Str := ["_law_hand", "_law_line", "_law_choice", "_law_at", "_law_sign", "_law_words", "_law_some"]
theorem fs_l_bent : FnScope N_l_bent ["_law_hand", "_law_line"] (defScope st_l_bent) := ⟨rfl, rfl, rfl, by decide +kernel, rfl, by decide +kernel, by decide +kernel⟩
theorem b_l_bent (T : TX K mg w) (S : Says K) : ∀ X W, Ct (gq K) P w mg base 1 N_l_bent (defScope st_l_bent) true true true X W → SBT (gq K) X W (defBody st_l_bent) c_l_bent := fun X W c =>
  toks_st (c.par2 rfl rfl rfl rfl (so_cons rfl (c.call T.toTb (ok_l_take T S) rfl rfl rfl rfl rfl rfl (.cons rfl (sa_cons rfl (c.var rfl) (sa_cons rfl se_int sa_nil))) sk_nil) (so_cons rfl (c.call T.toTb (ok_l_take T S) rfl rfl rfl rfl rfl rfl (.cons rfl (sa_cons rfl (c.var rfl) (sa_cons rfl (se_bin (ok_add c.K) (c.callB T.toTb (co_len c.K) rfl rfl rfl rfl (sa_cons rfl (c.var rfl) sa_nil)) se_int) sa_nil))) sk_nil) so_nil))) (toks_st (c.set rfl rfl (se_ix c.K se_str (c.call T.toTb (ok_l_take T S) rfl rfl rfl rfl rfl rfl (.cons rfl (sa_cons rfl (c.var rfl) (sa_cons rfl se_int sa_nil))) sk_nil) rfl)) (toks_st (c.set rfl rfl (se_sm1 PySem.F.slot_str_split PySem.F.type_str_split mt_split sm_split (c.var rfl) se_str)) (toks_st (c.set rfl rfl (se_lst (sa_cons rfl (se_bin (ok_add c.K) (se_bin (ok_add c.K) (se_slice c.K (c.var rfl) so_none (so_some (c.var rfl))) (c.var rfl)) (se_slice c.K (c.var rfl) (so_some (c.var rfl)) so_none)) (sa_cons rfl (se_bin (ok_add c.K) (se_bin (ok_add c.K) (se_slice c.K (c.var rfl) so_none (so_some (c.var rfl))) (c.var rfl)) (se_slice c.K (c.var rfl) (so_some (se_bin (ok_add c.K) (c.var rfl) se_int)) so_none)) (sa_cons rfl (se_bin (ok_add c.K) (se_slice c.K (c.var rfl) so_none (so_some (c.var rfl))) (se_slice c.K (c.var rfl) (so_some (se_bin (ok_add c.K) (c.var rfl) se_int)) so_none)) (sa_cons rfl (se_bin (ok_add c.K) se_str (c.var rfl)) sa_nil)))))) (toks_st (c.set rfl rfl (se_bin (ok_add c.K) (c.var rfl) (se_lst (sa_cons rfl (se_sm1 PySem.F.slot_str_join PySem.F.type_str_join mt_join (sm_join c.K) se_str (se_revX c.K (c.var rfl))) (sa_cons rfl (se_sm1 PySem.F.slot_str_join PySem.F.type_str_join mt_join (sm_join c.K) se_str (se_bin (ok_add c.K) (c.var rfl) (se_slice c.K (c.var rfl) so_none (so_some se_int)))) (sa_cons rfl (se_sm1 PySem.F.slot_str_join PySem.F.type_str_join mt_join (sm_join c.K) se_str (se_slice c.K (c.var rfl) (so_some se_int) so_none)) (sa_cons rfl (se_bin (ok_add c.K) se_str (c.var rfl)) (sa_cons rfl (se_bin (ok_add c.K) (c.var rfl) se_str) sa_nil)))))))) (toks_ret (tok_ix c.K (tok_bin (ok_add c.K) (SE.tk (c.var rfl)) (tok_lst (toks_cons rfl (tok_bin (ok_add c.K) (tok_repl (c.var rfl) (by decide)) (SE.tk se_str)) toks_nil))) (SE.tk (c.var rfl)) rfl))))))
theorem ok_l_bent (T : TX K mg w) (S : Says K) : FnC true (gq K) P w mg base fi_l_bent 2 (He.ga K "_law_bent") sh_l_bent :=
  FnC.ofT (by decide +kernel) (by decide) (N := N_l_bent) (code := c_l_bent) (dfl := ([] : List D)) (S.says.def_ 21 (d := d_l_bent) rfl) rfl fs_l_bent (b_l_bent T S) (fun fd F => ⟨bnd0 F (fun _ _ _ _ _ _ us ws hu hw => match us, ws, hu, hw with | [_, _], [], _, _ => ⟨_, rfl, rfl⟩), trivial⟩)
abbrev N_law : List Str := ["_law_script", "_law_long", "_law_texts", "_law_line", "_law_k", "_law_hand", "_law_thing", "_law_turn", "_law_bent_here"]
theorem fs_law : FnScope N_law ["_law_script"] (defScope st_law) := ⟨rfl, rfl, rfl, by decide +kernel, rfl, by decide +kernel, by decide +kernel⟩
theorem b_law (T : TX K mg w) (S : Says K) : ∀ X W, Ct (gq K) P w mg base 6 N_law (defScope st_law) true true true X W → SB (gq K) X W (defBody st_law) c_law := fun X W c =>
  sb_cons (ss_for (c.po rfl rfl) (c.calm rfl) (si_val c.K (se_tup (sa_cons rfl (se_bin ok_mulR se_str se_int) (sa_cons rfl (se_bin ok_mulR se_str se_int) (sa_cons rfl (se_bin (ok_add c.K) (se_bin ok_mulR se_str se_int) se_str) (sa_cons rfl (se_bin (ok_add c.K) se_str (se_bin ok_mulR se_str se_int)) sa_nil)))))) (sl := [1]) (c.sgName rfl) (sb_cons (c.set rfl rfl (se_lst (sa_cons rfl (c.var rfl) (sa_cons rfl (se_bin (ok_add c.K) se_str (c.var rfl)) (sa_cons rfl (se_bin (ok_add c.K) (c.var rfl) se_str) (sa_cons rfl (se_bin (ok_add c.K) se_str (c.var rfl)) (sa_cons rfl (se_bin (ok_add c.K) (c.var rfl) se_str) (sa_cons rfl (se_bin (ok_add c.K) se_str (c.var rfl)) sa_nil)))))))) (sb_cons (ss_if (st_not (st_val (c.callB T.toTb (co_all (c.calm rfl)) rfl rfl rfl rfl (sa_cons rfl (c.comp0 (sl := [3]) (ow := [("_law_line", 3)]) (si_val c.K (c.var rfl)) rfl rfl rfl rfl (fun X W c => c.sgName rfl) (fun X W c => c.call T.toTb (ok_l_right T S) rfl rfl rfl rfl rfl rfl (.cons rfl (sa_cons rfl (c.var rfl) sa_nil)) sk_nil)) sa_nil)) (fun _ => rfl))) (sb_cons (ss_ret se_bl) sb_nil) sb_nil) sb_nil)) rfl) (sb_cons (ss_for (c.po rfl rfl) (c.calm rfl) (si_range1 (c.gl rfl).1 (by rw [c.hmg]; exact T.fr _ rfl) rfl (se_bin (ok_add c.K) se_int (c.callB T.toTb (co_min (c.calm rfl)) rfl rfl rfl rfl (sa_cons rfl se_int (sa_cons rfl (c.callB T.toTb (co_len c.K) rfl rfl rfl rfl (sa_cons rfl (c.var rfl) sa_nil)) sa_nil))))) (sl := [4]) (c.sgName rfl) (sb_cons (c.set rfl rfl (c.call T.toTb (ok_l_hand_of T S) rfl rfl rfl rfl rfl rfl (.cons rfl (sa_cons rfl (c.var rfl) (sa_cons rfl (c.var rfl) sa_nil))) sk_nil)) (sb_cons (c.par2 rfl rfl rfl rfl (so_cons rfl (c.call T.toTb (ok_l_any_thing T S) rfl rfl rfl rfl rfl rfl (.cons rfl (sa_cons rfl (c.var rfl) sa_nil)) sk_nil) (so_cons rfl (c.call T.toTb (ok_l_text_of T S) rfl rfl rfl rfl rfl rfl (.cons rfl (sa_cons rfl (c.var rfl) sa_nil)) sk_nil) so_nil))) (sb_cons (c.set rfl rfl (se_ix c.K (se_lst (sa_cons rfl (c.var rfl) (sa_cons rfl (c.make T.toTb (ok_Measure___init__ T S) rfl (mkr_Measure S) rfl rfl rfl rfl rfl rfl rfl (.cons rfl (sa_cons rfl se_int (sa_cons rfl se_int sa_nil))) sk_nil) (sa_cons rfl se_int (sa_cons rfl (se_tup (sa_cons rfl (c.var rfl) sa_nil)) (sa_cons rfl (se_lst (sa_cons rfl (c.var rfl) sa_nil)) sa_nil)))))) (c.call T.toTb (ok_l_take T S) rfl rfl rfl rfl rfl rfl (.cons rfl (sa_cons rfl (c.var rfl) (sa_cons rfl se_int sa_nil))) sk_nil) rfl)) (sb_cons (ss_if (st_pw (sw_or (st_not (st_val (c.call T.toTb (ok_l_right T S) rfl rfl rfl rfl rfl rfl (.cons rfl (sa_cons rfl (c.var rfl) sa_nil)) sk_nil) (fun _ => rfl))) (sw_one _ (st_not (st_val (c.call T.toTb (ok_l_refused T S) rfl rfl rfl rfl rfl rfl (.cons rfl (sa_cons rfl (c.var rfl) sa_nil)) sk_nil) (fun _ => rfl)))))) (sb_cons (ss_ret se_bl) sb_nil) sb_nil) (sb_cons (ss_for (c.po rfl rfl) (c.calm rfl) (si_range1 (c.gl rfl).1 (by rw [c.hmg]; exact T.fr _ rfl) rfl se_int) (sl := [7]) (c.sgName rfl) (sb_cons (c.set rfl rfl (c.call T.toTb (ok_l_bent T S) rfl rfl rfl rfl rfl rfl (.cons rfl (sa_cons rfl (c.var rfl) (sa_cons rfl (c.var rfl) sa_nil))) sk_nil)) (sb_cons (ss_if (st_pw (sw_or (st_not (st_val (c.call T.toTb (ok_l_right T S) rfl rfl rfl rfl rfl rfl (.cons rfl (sa_cons rfl (c.var rfl) sa_nil)) sk_nil) (fun _ => rfl))) (sw_one _ (st_not (st_val (c.call T.toTb (ok_l_right T S) rfl rfl rfl rfl rfl rfl (.cons rfl (sa_cons rfl (c.call T.toTb (ok_l_bent T S) rfl rfl rfl rfl rfl rfl (.cons rfl (sa_cons rfl (c.var rfl) (sa_cons rfl (c.var rfl) sa_nil))) sk_nil) sa_nil)) sk_nil) (fun _ => rfl)))))) (sb_cons (ss_ret se_bl) sb_nil) sb_nil) sb_nil)) rfl) sb_nil))))) rfl) (sb_cons (ss_ret se_bl) sb_nil))
end
end Law
set_option Elab.async false
set_option linter.all false
set_option maxRecDepth 100000
set_option maxHeartbeats 0
namespace Law
open PySem PySem.Spec PyProof.Rows L2 Sz
/-- the law from its promise -/
theorem whole (hlaw : ∀ ns : List Int, ns.length ≤ 63 → fi_law.sem [.val (.scr ns)] [] = some (.ok (.val (.bl true)), [])) : PySem.Challenge.rw_sizeladders_k05_measures_read.Holds := by
  open PySem.W PySem.Calls PyProof.Rows in
  w_on; o_law
  refine HandSHeadRun.head_any (r := OpenLaw.row PySem.Challenge.rw_sizeladders_k05_measures_read) (q := view (OpenLaw.row PySem.Challenge.rw_sizeladders_k05_measures_read).prog [35]) (H := hk) (ob := ob) (M := 4000) (loose := tLoose) (d := HandSHeadRun.topDef (OpenLaw.row PySem.Challenge.rw_sizeladders_k05_measures_read).prog 35) (kwd := []) ob_eq
    (by kernel_rfl) (fun s => by kernel_rfl) run (by kernel_rfl) (by kernel_rfl) (by kernel_rfl) (by rfl) (by first | assumption | decide +kernel) (by decide +kernel) ⟨rfl, rfl, rfl, rfl, rfl, by decide +kernel⟩ ?hw ?hc
  case hw => w_witness2
  case hc =>
    refine walk_G (l := PySem.Challenge.rw_sizeladders_k05_measures_read) (n := 63) (k := 7) (x := "_law_script") (gb := true) rfl (by decide) (by kernel_rfl) ⟨rfl, by decide, by decide⟩ ?F
    intro w mg fa h Y G hmg0
    obtain ⟨K, KX, SY⟩ := Y
    have S := SY.z
    have hmg : mg ("law" : PySem.Str) = some (.ref fa) := by
      have e : (HandSHeadRun.topDef (OpenLaw.row PySem.Challenge.rw_sizeladders_k05_measures_read).prog 35).name = ("law" : PySem.Str) := by kernel_rfl
      rw [← e]
      exact hmg0
    have T : TX K mg w := tbx_of rfl KX G SY (He.ba (He.ba S.chk).2).2 (He.ba (He.ba S.chk).1).2
    obtain ⟨fd, F⟩ := He.SaysD.def_ S.says 22 (d := d_law) rfl
    have e := hmg.symm.trans (T.gl "law" rfl).1
    cases e
    have b := FunD.bindsA (ps := ["_law_script"]) F fun _ _ _ _ _ _ us hl => match us, hl with | [_], _ => rfl
    exact ⟨K, fd, spOf (gq K) 1 fi_law.sem, KX, fun s v => b s [v] rfl, fun H a ns hl hS => sp_law (g := gq K) hS (hlaw ns hl), fun base _ _ => fn_ok (g := gq K) F fs_law (b_law T S)⟩
end Law
set_option Elab.async false
set_option linter.all false
set_option maxRecDepth 100000
set_option maxHeartbeats 4000000
set_option exponentiation.threshold 100000
namespace Law
open PySem PySem.Spec L2 Sz
theorem fmod_range {i m : Int} (h : 0 < m) : 0 ≤ i.fmod m ∧ i.fmod m < m := ⟨Int.fmod_nonneg_of_pos i h, Int.fmod_lt_of_pos i h⟩
theorem take_spec {μ : Sto} {k n : Nat} {m : Int} (h : HandAt μ k n) (hn : n < 2 ^ 200) (hm : 0 < m) (hl : Bd 8000 m) :
    ∃ d μ', fi_l_take.sem [.cell k, .val (.int m)] μ = some (.ok (.val (.int d)), μ') ∧ 0 ≤ d ∧ d < m ∧ HandAt μ' k (n + 1) ∧ Upd k μ μ' := by
  obtain ⟨a, b, c, h1, h2, h3, h4, h5⟩ := h
  have hm0 : m ≠ 0 := by omega
  have e : fi_l_take.sem [.cell k, .val (.int m)] μ = finF μ.length (c_l_take [some (.cell k), some (.val (.int m)), none, none] μ) := rfl
  rw [e]
  unfold c_l_take
  by_cases ha : 0 < a
  · have q1 := mod_ii (i := a) hm0
    have q2 := fdiv_ii (i := a) 8000 hm0 hl
    have q3 : ∀ (s : S) (d : D) (ρ : En), rt s = .val d → ρ[0]? = some (some (.cell k)) → gSubM (mVar 0) (mK (.int 0)) s ρ μ = some (ρ, μ.set k (.lst ([D.int a, .int b, .int c].set 0 d))) := fun s d ρ hs hr =>
      gSub_cell hs (by rw [mVar_ap, hr]; rfl) rfl h1 rfl
    simp only [ev, List.getElem?_cons_zero, List.getElem?_cons_succ, List.set_cons_zero, List.set_cons_succ, decide_eq_true_eq, Bool.not_eq_true', decide_eq_false_iff_not, Nat.reduceAdd, Bool.not_true, Bool.not_false, Option.map_some, Option.map_none, h1, q1, q2, ha]
    rw [q3 _ _ _ rfl rfl]
    simp only [ev, List.getElem?_cons_zero, List.getElem?_cons_succ, List.set_cons_zero, List.set_cons_succ, decide_eq_true_eq, Bool.not_eq_true', decide_eq_false_iff_not, Nat.reduceAdd, Bool.not_true, Bool.not_false, Option.map_some, Option.map_none]
    have r := fmod_range (i := a) hm
    refine ⟨_, _, rfl, r.1, r.2, ?_, ?_⟩
    · rw [Upd.set.take]
      exact ⟨_, b, c, get_set h1, h2, h3, h4, by omega⟩
    · rw [Upd.set.take]
      exact Upd.set
  · have c1 : Bd 201 (c + 1) := by unfold Bd; omega
    have hb : Bd 61 b := by unfold Bd; omega
    have q3 : ∀ (s : S) (d : D) (ρ : En), rt s = .val d → ρ[0]? = some (some (.cell k)) → gSubM (mVar 0) (mK (.int 2)) s ρ μ = some (ρ, μ.set k (.lst ([D.int a, .int b, .int c].set 2 d))) := fun s d ρ hs hr =>
      gSub_cell hs (by rw [mVar_ap, hr]; rfl) rfl h1 rfl
    simp only [ev, List.getElem?_cons_zero, List.getElem?_cons_succ, List.set_cons_zero, List.set_cons_succ, decide_eq_true_eq, Bool.not_eq_true', decide_eq_false_iff_not, Nat.reduceAdd, Bool.not_true, Bool.not_false, Option.map_some, Option.map_none, h1, ha]
    rw [q3 _ _ _ rfl rfl]
    simp only [ev, List.getElem?_cons_zero, List.getElem?_cons_succ, List.set_cons_zero, List.set_cons_succ, decide_eq_true_eq, Bool.not_eq_true', decide_eq_false_iff_not, Nat.reduceAdd, Bool.not_true, Bool.not_false, Option.map_some, Option.map_none]
    have g1 := get_set (c := .lst [.int a, .int b, .int (c + 1)]) h1
    have u1 : Upd k μ (μ.set k (.lst [.int a, .int b, .int (c + 1)])) := Upd.set
    generalize μ.set k (.lst [.int a, .int b, .int (c + 1)]) = μ1 at g1 u1 ⊢
    have k1 : Bd 17 (65537 : Int) := by unfold Bd; decide
    have m1 := mul_bd 17 201 k1 c1
    have b1 := k1.mul c1
    have m2 := mul_bd (17 + 201) 201 b1 c1
    have b2 := b1.mul c1
    have b3 := ((hb.mono (show 61 ≤ 17 + 201 + 201 by decide)).add b2).add (show Bd (17 + 201 + 201 + 1) 11 by unfold Bd; decide)
    have p1 := pow_ii (j := 3) _ b3 (by decide) (by decide)
    generalize hz : (b + 65537 * (c + 1) * (c + 1) + 11) ^ (3 : Int).toNat = z at p1
    have d1 := mod_ii (i := z) (j := 2305843009213693921) (by decide)
    have r1 := fmod_range (i := z) (m := 2305843009213693921) (by decide)
    generalize z.fmod 2305843009213693921 = y at d1 r1
    have by1 : Bd 61 y := by unfold Bd; omega
    have d2 := mod_ii (i := y) (j := 1000003) (by decide)
    have r2 := fmod_range (i := y) (m := 1000003) (by decide)
    generalize y.fmod 1000003 = y2 at d2 r2
    have k2 : Bd 17 (99991 : Int) := by unfold Bd; decide
    have m3 := mul_bd 17 201 k2 c1
    have b4 := (show Bd (17 + 201) y2 by unfold Bd; omega).add (k2.mul c1)
    have m4 := mul_bd _ _ by1 b4
    generalize hw : y * (y2 + 99991 * (c + 1)) = x at m4
    have d3 := mod_ii (i := x) (j := 2305843009213693907) (by decide)
    generalize x.fmod 2305843009213693907 = t at d3
    have f1 := fdiv_ii (i := t) (j := 97) 7 (by decide) (by unfold Bd; decide)
    have f2 := fdiv_ii (i := t) (j := 1000033) 20 (by decide) (by unfold Bd; decide)
    have d4 := mod_ii (i := t.fdiv 97 + t.fdiv 1000033) hm0
    simp only [ev, List.getElem?_cons_zero, List.getElem?_cons_succ, List.set_cons_zero, List.set_cons_succ, decide_eq_true_eq, Bool.not_eq_true', decide_eq_false_iff_not, Nat.reduceAdd, Bool.not_true, Bool.not_false, Option.map_some, Option.map_none, g1, m1, m2, p1, d1, d2, m3, m4, d3, f1, f2, d4]
    have r := fmod_range (i := t.fdiv 97 + t.fdiv 1000033) hm
    refine ⟨_, _, rfl, r.1, r.2, ?_, ?_⟩
    · rw [u1.take]
      exact ⟨_, b, c + 1, g1, h2, h3, by omega, by omega⟩
    · rw [u1.take]
      exact u1
theorem take_call {μ : Sto} {k n : Nat} {m : Int} (h : HandAt μ k n) (hm : 0 < m) (hl : Bd 8000 m) (hn : n < 2 ^ 200 := by omega) :
    ∃ d μ', callF fi_l_take 2 [] [.cell k, .val (.int m)] [] μ = some (.ok (.val (.int d)), μ') ∧ 0 ≤ d ∧ d < m ∧ HandAt μ' k (n + 1) ∧ Upd k μ μ' := by
  rw [show callF fi_l_take 2 [] [.cell k, .val (.int m)] [] μ = fi_l_take.sem [.cell k, .val (.int m)] μ from callF_eq rfl rfl rfl]
  exact take_spec h hn hm hl
theorem hand_call {μ : Sto} {ns : List Int} {k : Nat} : ∃ a b : Int, callF fi_l_hand_of 2 [] [.val (.scr ns), .val (.int k)] [] μ = some (.ok (.fr [.int a, .int b, .int 0]), μ) ∧ 0 ≤ b ∧ b < 2 ^ 61 := by
  rw [show callF fi_l_hand_of 2 [] [.val (.scr ns), .val (.int k)] [] μ = fi_l_hand_of.sem [.val (.scr ns), .val (.int k)] μ from callF_eq rfl rfl rfl]
  have e : fi_l_hand_of.sem [.val (.scr ns), .val (.int k)] μ = finF μ.length (c_l_hand_of [some (.val (.scr ns)), some (.val (.int k)), none, none] μ) := rfl
  rw [e]
  unfold c_l_hand_of
  have key : ∀ z : Int, ∃ a b : Int, finF μ.length (seqK (some (.nx, [some (.val (.scr ns)), some (.val (.int k)), some (.val (.int z)), none], μ)) (sSeq (sAsg (gNm 3 false) (mOp2 dMod (mOp2 dAdd (mOp2 dAdd (mOp2 dMod (mVar 2) (mK (.int 2305843009213693951))) (mOp2 dMul (mK (.int 7919)) (mVar 1))) (mK (.int 3))) (mK (.int 2305843009213693951)))) (sSeq (sRet (mList [mOp2 dMul (mVar 2) (mCallB bInt [mOp2 dGe (mVar 2) (mOp2 dPow (mK (.int 10)) (mK (.int 18)))]), mVar 3, mK (.int 0)])) sNil))) = some (.ok (.fr [.int a, .int b, .int 0]), μ) ∧ 0 ≤ b ∧ b < 2 ^ 61 := by
    intro z
    have d1 := mod_ii (i := z) (j := 2305843009213693951) (by decide)
    have m1 : dMul (.int 7919) (.int (k : Int)) = some (.val (.int (7919 * (k : Int)))) := mul_ii (mulOk_left (by unfold Bd; decide))
    have d2 := mod_ii (i := z.fmod 2305843009213693951 + 7919 * (k : Int) + 3) (j := 2305843009213693951) (by decide)
    have r2 := fmod_range (i := z.fmod 2305843009213693951 + 7919 * (k : Int) + 3) (m := 2305843009213693951) (by decide)
    generalize (z.fmod 2305843009213693951 + 7919 * (k : Int) + 3).fmod 2305843009213693951 = b at d2 r2
    have p1 := pow_ii (i := 10) (j := 18) 4 (by unfold Bd; decide) (by decide) (by decide)
    have m2 : dMul (.int z) (.int (if decide ((10 : Int) ^ (18 : Int).toNat ≤ z) = true then 1 else 0)) = some (.val (.int (z * (if decide ((10 : Int) ^ (18 : Int).toNat ≤ z) = true then 1 else 0)))) := mul_ii (mulOk_right (by unfold Bd; split <;> decide))
    refine ⟨z * (if decide ((10 : Int) ^ (18 : Int).toNat ≤ z) = true then 1 else 0), b, ?_, r2.1, by omega⟩
    simp only [ev, List.getElem?_cons_zero, List.getElem?_cons_succ, List.set_cons_zero, List.set_cons_succ, decide_eq_true_eq, Bool.not_eq_true', decide_eq_false_iff_not, Nat.reduceAdd, Bool.not_true, Bool.not_false, Option.map_some, Option.map_none, d1, m1, d2, p1]
    simp only [decide_eq_true_eq] at m2
    simp only [ev, List.getElem?_cons_zero, List.getElem?_cons_succ, List.set_cons_zero, List.set_cons_succ, decide_eq_true_eq, Bool.not_eq_true', decide_eq_false_iff_not, Nat.reduceAdd, Bool.not_true, Bool.not_false, Option.map_some, Option.map_none, m2, List.take_length]
  by_cases hk : (k : Int) < ns.length
  · obtain ⟨z, hz, _⟩ := atI_mem (l := ns) (i := (k : Int)) (by omega) hk
    obtain ⟨a, b, h1, h2⟩ := key z
    refine ⟨a, b, ?_, h2⟩
    rw [← h1]
    simp only [ev, List.getElem?_cons_zero, List.getElem?_cons_succ, List.set_cons_zero, List.set_cons_succ, decide_eq_true_eq, Bool.not_eq_true', decide_eq_false_iff_not, Nat.reduceAdd, Bool.not_true, Bool.not_false, Option.map_some, Option.map_none, hk, hz]
  · obtain ⟨a, b, h1, h2⟩ := key 0
    refine ⟨a, b, ?_, h2⟩
    rw [← h1]
    simp only [ev, List.getElem?_cons_zero, List.getElem?_cons_succ, List.set_cons_zero, List.set_cons_succ, decide_eq_true_eq, Bool.not_eq_true', decide_eq_false_iff_not, Nat.reduceAdd, Bool.not_true, Bool.not_false, Option.map_some, Option.map_none, hk]
theorem isi_int {i : Int} : bIsi nKit nKit subK [.int i, .ty "int"] = some (.val (.bl true)) := rfl
theorem isi_int_b {i : Int} : bIsi nKit nKit subK [.int i, .ty "bool"] = some (.val (.bl false)) := rfl
theorem is_whole_int {i : Int} {μ : Sto} : callF fi_is_whole 1 [] [.val (.int i)] [] μ = some (.ok (.val (.bl true)), μ) := by
  rw [show callF fi_is_whole 1 [] [.val (.int i)] [] μ = fi_is_whole.sem [.val (.int i)] μ from callF_eq rfl rfl rfl]
  rw [show fi_is_whole.sem [.val (.int i)] μ = finF μ.length (c_is_whole [some (.val (.int i))] μ) from rfl]
  unfold c_is_whole
  simp only [ev, List.getElem?_cons_zero, List.getElem?_cons_succ, List.set_cons_zero, List.set_cons_succ, decide_eq_true_eq, Bool.not_eq_true', decide_eq_false_iff_not, Nat.reduceAdd, Bool.not_true, Bool.not_false, Option.map_some, Option.map_none, isi_int, isi_int_b]
  rw [List.take_length]
  all_goals rfl
theorem common_call {a b : Nat} {μ : Sto} : callF fi_common_part 2 [] [.val (.int (a : Int)), .val (.int (b : Int))] [] μ = some (.ok (.val (.int (Nat.gcd a b : Int))), μ) := by
  rw [show callF fi_common_part 2 [] [.val (.int (a : Int)), .val (.int (b : Int))] [] μ = fi_common_part.sem [.val (.int (a : Int)), .val (.int (b : Int))] μ from callF_eq rfl rfl rfl]
  rw [show fi_common_part.sem [.val (.int (a : Int)), .val (.int (b : Int))] μ = finF μ.length (c_common_part [some (.val (.int (a : Int))), some (.val (.int (b : Int)))] μ) from rfl]
  unfold c_common_part
  obtain ⟨n, hn⟩ := euclid (t := tBl (mOp2 dGt (mVar 1) (mK (.int 0)))) (b := c_common_part_b1) (mk := fun x y => [some (.val (.int (x : Int))), some (.val (.int (y : Int)))]) (μ := μ)
    (fun x => by simp only [ev, List.getElem?_cons_zero, List.getElem?_cons_succ, List.set_cons_zero, List.set_cons_succ, decide_eq_true_eq, Bool.not_eq_true', decide_eq_false_iff_not, Nat.reduceAdd, Bool.not_true, Bool.not_false, Option.map_some, Option.map_none]; rfl) (fun x y hy => by simp only [ev, List.getElem?_cons_zero, List.getElem?_cons_succ, List.set_cons_zero, List.set_cons_succ, decide_eq_true_eq, Bool.not_eq_true', decide_eq_false_iff_not, Nat.reduceAdd, Bool.not_true, Bool.not_false, Option.map_some, Option.map_none]; rw [decide_eq_true (by omega)]) (fun x y hy => by
      have q := mod_ii (i := (x : Int)) (j := (y : Int)) (by omega)
      unfold c_common_part_b1
      simp only [ev, List.getElem?_cons_zero, List.getElem?_cons_succ, List.set_cons_zero, List.set_cons_succ, decide_eq_true_eq, Bool.not_eq_true', decide_eq_false_iff_not, Nat.reduceAdd, Bool.not_true, Bool.not_false, Option.map_some, Option.map_none, q]
      rw [Int.fmod_eq_emod_of_nonneg _ (by omega)]
      rfl) b a
  have hn := sWhile_eq n hn
  simp only [ev, List.getElem?_cons_zero, List.getElem?_cons_succ, List.set_cons_zero, List.set_cons_succ, decide_eq_true_eq, Bool.not_eq_true', decide_eq_false_iff_not, Nat.reduceAdd, Bool.not_true, Bool.not_false, Option.map_some, Option.map_none, hn]
  rw [List.take_length]
theorem fd_exact {i j : Int} (h : j ∣ i) (hj : j ≠ 0) : i.fdiv j * j = i := Int.fdiv_mul_cancel h
theorem bd_dvd {n : Nat} {i j : Int} (h : j ∣ i) (hj : j ≠ 0) (hb : Bd n i) : Bd n (i.fdiv j) := by
  have e := fd_exact h hj
  have h2 : (i.fdiv j * j).natAbs = i.natAbs := by rw [e]
  rw [Int.natAbs_mul] at h2
  unfold Bd at *
  have h3 : 0 < j.natAbs := by omega
  have : (i.fdiv j).natAbs ≤ (i.fdiv j).natAbs * j.natAbs := Nat.le_mul_of_pos_right _ h3
  omega
/-- Measure(a, b) of whole numbers, b not nought -/
theorem measure_make {n : Nat} {a b : Int} (hb : b ≠ 0) (h1 : Bd n a) (h2 : Bd n b) (hn9 : n ≤ 9000 := by decide) :
    ∃ t u : Int, (∀ μ : Sto, callM mk_Measure 2 [] [.val (.int a), .val (.int b)] [] μ = some (.ok (.val (.obj 0 [.int t, .int u])), μ)) ∧ 0 < u ∧ t * b = a * u ∧ Bd n t ∧ Bd n u ∧ Nat.gcd t.natAbs u.natAbs = 1 := by
  have hg : 0 < Nat.gcd a.natAbs b.natAbs := Nat.gcd_pos_of_pos_right _ (by omega)
  have da : (Nat.gcd a.natAbs b.natAbs : Int) ∣ a := Int.ofNat_dvd_left.mpr (Nat.gcd_dvd_left _ _)
  have db : (Nat.gcd a.natAbs b.natAbs : Int) ∣ b := Int.ofNat_dvd_left.mpr (Nat.gcd_dvd_right _ _)
  have bg : Bd n (Nat.gcd a.natAbs b.natAbs : Int) := by
    have : Nat.gcd a.natAbs b.natAbs ≤ b.natAbs := Nat.gcd_le_right _ (by omega)
    unfold Bd at *
    omega
  generalize hG : Nat.gcd a.natAbs b.natAbs = G at *
  have fin : ∀ p : Int, p ≠ 0 → p ∣ a → p ∣ b → Bd n p → p.natAbs = G → 0 < b.fdiv p → (∀ μ : Sto, finM mk_Measure μ.length (finF (μ ++ [C.ins 0 []]).length (seqK (some (.nx, [some (.cell μ.length), some (.val (.int a)), some (.val (.int b)), some (.val (.int p))], μ ++ [.ins 0 []])) (sSeq (sFldM nCls "top" (mVar 0) (mOp2 dFdiv (mVar 1) (mVar 3))) (sSeq (sFldM nCls "bottom" (mVar 0) (mOp2 dFdiv (mVar 2) (mVar 3))) sNil)))) = some (.ok (.val (.obj 0 [.int (a.fdiv p), .int (b.fdiv p)])), μ)) ∧ 0 < b.fdiv p ∧ a.fdiv p * b = a * b.fdiv p ∧ Bd n (a.fdiv p) ∧ Bd n (b.fdiv p) ∧ Nat.gcd (a.fdiv p).natAbs (b.fdiv p).natAbs = 1 := by
    intro p hp da db bp hpG hu
    have f1 := fdiv_ii (i := a) n hp bp hn9
    have f2 := fdiv_ii (i := b) n hp bp hn9
    refine ⟨fun μ => ?_, hu, ?_, bd_dvd da hp h1, bd_dvd db hp h2, ?_⟩
    · rw [seqK_nx, sSeq_ap, fld_ap (d := .int (a.fdiv p)) (k := μ.length) (c := 0) (fs := []) (by simp only [ev, List.getElem?_cons_zero, List.getElem?_cons_succ, List.set_cons_zero, List.set_cons_succ, decide_eq_true_eq, Bool.not_eq_true', decide_eq_false_iff_not, Nat.reduceAdd, Bool.not_true, Bool.not_false, Option.map_some, Option.map_none, f1]) (by simp only [ev, List.getElem?_cons_zero, List.getElem?_cons_succ, List.set_cons_zero, List.set_cons_succ, decide_eq_true_eq, Bool.not_eq_true', decide_eq_false_iff_not, Nat.reduceAdd, Bool.not_true, Bool.not_false, Option.map_some, Option.map_none]) get_end (by decide) (by decide), set_end]
      rw [show putD ("top" : Str) (D.int (a.fdiv p)) [] = [(("top" : Str), D.int (a.fdiv p))] from rfl]
      rw [seqK_nx, sSeq_ap, fld_ap (n := nCls) (d := .int (b.fdiv p)) (k := μ.length) (c := 0) (fs := [("top", .int (a.fdiv p))]) (by simp only [ev, List.getElem?_cons_zero, List.getElem?_cons_succ, List.set_cons_zero, List.set_cons_succ, decide_eq_true_eq, Bool.not_eq_true', decide_eq_false_iff_not, Nat.reduceAdd, Bool.not_true, Bool.not_false, Option.map_some, Option.map_none, f2]) (by simp only [ev, List.getElem?_cons_zero, List.getElem?_cons_succ, List.set_cons_zero, List.set_cons_succ, decide_eq_true_eq, Bool.not_eq_true', decide_eq_false_iff_not, Nat.reduceAdd, Bool.not_true, Bool.not_false, Option.map_some, Option.map_none]) get_end (by decide) (by show _ < 1000; simp), set_end]
      rw [show putD ("bottom" : Str) (D.int (b.fdiv p)) [(("top" : Str), D.int (a.fdiv p))] = [(("top" : Str), D.int (a.fdiv p)), (("bottom" : Str), D.int (b.fdiv p))] from rfl]
      rw [seqK_nx, sNil_ap, finF_nx, List.length_append, List.take_of_length_le (by rw [List.length_append]; exact Nat.le_refl _)]
      rw [finM_ap (c := 0) (fs := [("top", .int (a.fdiv p)), ("bottom", .int (b.fdiv p))]) get_end rfl rfl, take_end]
      rfl
    · have ea := fd_exact da hp
      have eb := fd_exact db hp
      generalize a.fdiv p = x at *
      generalize b.fdiv p = y at *
      subst ea eb
      rw [Int.mul_comm y p, ← Int.mul_assoc]
    · have ea := congrArg Int.natAbs (fd_exact da hp)
      have eb := congrArg Int.natAbs (fd_exact db hp)
      rw [Int.natAbs_mul, hpG] at ea eb
      rw [← ea, ← eb, Nat.gcd_mul_right] at hG
      exact Nat.eq_of_mul_eq_mul_right hg (by rw [hG, Nat.one_mul])
  have hb0 : decide (b = 0) = false := decide_eq_false hb
  have q1 : (if b < 0 then (-b : Int) else b) = (b.natAbs : Int) := by split <;> omega
  have cc : ∀ μ : Sto, callF fi_common_part 2 [] [.val (.int (a.natAbs : Int)), .val (.int (b.natAbs : Int))] [] (μ ++ [.ins 0 []]) = some (.ok (.val (.int (G : Int))), μ ++ [.ins 0 []]) := fun μ => by rw [common_call, hG]
  have start : ∀ μ : Sto, callM mk_Measure 2 [] [.val (.int a), .val (.int b)] [] μ = finM mk_Measure μ.length (finF (μ ++ [C.ins 0 []]).length (c_Measure___init__ [some (.cell μ.length), some (.val (.int a)), some (.val (.int b)), none] (μ ++ [.ins 0 []]))) := fun μ =>
    (show callM mk_Measure 2 [] [.val (.int a), .val (.int b)] [] μ = finM mk_Measure μ.length (fi_Measure___init__.sem [.cell μ.length, .val (.int a), .val (.int b)] (μ ++ [.ins 0 []])) from callM_eq rfl rfl rfl).trans rfl
  by_cases hn : b < 0
  · obtain ⟨e, r⟩ := fin (0 - (G : Int)) (by omega) (by rw [Int.zero_sub]; exact Int.neg_dvd.mpr da) (by rw [Int.zero_sub]; exact Int.neg_dvd.mpr db) (by rw [Int.zero_sub]; exact bg.neg) (by omega) (by
      have e := fd_exact (i := b) (j := 0 - (G : Int)) (by rw [Int.zero_sub]; exact Int.neg_dvd.mpr db) (by omega)
      by_cases h : 0 < b.fdiv (0 - (G : Int))
      · exact h
      · have h0 : b.fdiv (0 - (G : Int)) ≤ 0 := by omega
        have : 0 ≤ b.fdiv (0 - (G : Int)) * (0 - (G : Int)) := Int.mul_nonneg_of_nonpos_of_nonpos h0 (by omega)
        omega)
    refine ⟨_, _, fun μ => ?_, r⟩
    rw [← e, start]
    unfold c_Measure___init__
    simp only [ev, List.getElem?_cons_zero, List.getElem?_cons_succ, List.set_cons_zero, List.set_cons_succ, decide_eq_true_eq, Bool.not_eq_true', decide_eq_false_iff_not, Nat.reduceAdd, Bool.not_true, Bool.not_false, Option.map_some, Option.map_none, is_whole_int, hb0, cc, hn, Bool.not_true, hb]
  · obtain ⟨e, r⟩ := fin (G : Int) (by omega) da db bg (by omega) (by
      have e := fd_exact (i := b) (j := (G : Int)) db (by omega)
      by_cases h : 0 < b.fdiv (G : Int)
      · exact h
      · have h0 : b.fdiv (G : Int) ≤ 0 := by omega
        have : b.fdiv (G : Int) * (G : Int) ≤ 0 := Int.mul_nonpos_of_nonpos_of_nonneg h0 (by omega)
        omega)
    refine ⟨_, _, fun μ => ?_, r⟩
    rw [← e, start]
    unfold c_Measure___init__
    simp only [ev, List.getElem?_cons_zero, List.getElem?_cons_succ, List.set_cons_zero, List.set_cons_succ, decide_eq_true_eq, Bool.not_eq_true', decide_eq_false_iff_not, Nat.reduceAdd, Bool.not_true, Bool.not_false, Option.map_some, Option.map_none, is_whole_int, hb0, cc, hn, Bool.not_true, hb]
abbrev Ob (t u : Int) : D := .obj 0 [.int t, .int u]
theorem fld_top {μ : Sto} {t u : Int} : fldK μ [.int t, .int u] (fldIx tFls 0 "top") = some (.ok (.val (.int t)), μ) := rfl
theorem fld_bottom {μ : Sto} {t u : Int} : fldK μ [.int t, .int u] (fldIx tFls 0 "bottom") = some (.ok (.val (.int u)), μ) := rfl
/-- (t, u) is the fraction a / b in lowest terms -/
structure IsM (n : Nat) (t u a b : Int) : Prop where
  pos : 0 < u
  eq : t * b = a * u
  b1 : Bd n t
  b2 : Bd n u
  low : Nat.gcd t.natAbs u.natAbs = 1
theorem make_ex {n : Nat} {a b : Int} (hb : b ≠ 0) (h1 : Bd n a) (h2 : Bd n b) (hn9 : n ≤ 9000 := by decide) : ∃ t u : Int, (∀ μ : Sto, callM mk_Measure 2 [] [.val (.int a), .val (.int b)] [] μ = some (.ok (.val (Ob t u)), μ)) ∧ IsM n t u a b := by
  obtain ⟨t, u, e, h1, h2, h3, h4, h5⟩ := measure_make hb h1 h2 hn9
  exact ⟨t, u, e, h1, h2, h3, h4, h5⟩
abbrev mQ (q : Rat) : D := .obj 0 [.int q.num, .int (q.den : Int)]
/-- its numbers have at most so many bits -/
structure BQ (n : Nat) (q : Rat) : Prop where
  t : Bd n q.num
  b : Bd n (q.den : Int)
theorem BQ.mono {n m : Nat} {q : Rat} (h : BQ n q) (e : n ≤ m) : BQ m q := ⟨h.t.mono e, h.b.mono e⟩
theorem mQ_of {n : Nat} {t u a b : Int} (hb : b ≠ 0) (i : IsM n t u a b) : Ob t u = mQ (Rat.divInt a b) ∧ BQ n (Rat.divInt a b) := by
  have hu : u.toNat ≠ 0 := by have := i.pos; omega
  have hc : Nat.Coprime t.natAbs u.toNat := by
    have h := i.low
    have e : u.natAbs = u.toNat := by have := i.pos; omega
    rw [e] at h
    exact h
  have e : (⟨t, u.toNat, hu, hc⟩ : Rat) = Rat.divInt a b := by
    rw [← Rat.num_divInt_den ⟨t, u.toNat, hu, hc⟩]
    have hu2 : ((u.toNat : Nat) : Int) = u := Int.toNat_of_nonneg (Int.le_of_lt i.pos)
    show Rat.divInt t ((u.toNat : Nat) : Int) = _
    rw [hu2]
    exact (Rat.divInt_eq_divInt_iff (by have := i.pos; omega) hb).mpr i.eq
  rw [← e]
  have hu2 : ((u.toNat : Nat) : Int) = u := Int.toNat_of_nonneg (Int.le_of_lt i.pos)
  refine ⟨?_, i.b1, ?_⟩
  · show Ob t u = .obj 0 [.int t, .int ((u.toNat : Nat) : Int)]
    rw [hu2]
  · show Bd n ((u.toNat : Nat) : Int)
    rw [hu2]
    exact i.b2
theorem make_q {a b : Int} (n : Nat) (hb : b ≠ 0) (h1 : Bd n a) (h2 : Bd n b) (hn9 : n ≤ 9000 := by decide) : (∀ μ : Sto, callM mk_Measure 2 [] [.val (.int a), .val (.int b)] [] μ = some (.ok (.val (mQ (Rat.divInt a b))), μ)) ∧ BQ n (Rat.divInt a b) := by
  obtain ⟨t, u, e, i⟩ := make_ex hb h1 h2 hn9
  obtain ⟨e1, e2⟩ := mQ_of hb i
  rw [← e1]
  exact ⟨e, e2⟩
theorem q_top {μ : Sto} {q : Rat} : fldK μ [.int q.num, .int (q.den : Int)] (fldIx tFls 0 "top") = some (.ok (.val (.int q.num)), μ) := rfl
theorem q_bottom {μ : Sto} {q : Rat} : fldK μ [.int q.num, .int (q.den : Int)] (fldIx tFls 0 "bottom") = some (.ok (.val (.int (q.den : Int))), μ) := rfl
theorem low_terms {n : Nat} {a b : Int} (hb : 0 < b) (h1 : Bd n a) (h2 : Bd n b) : a.fdiv (Nat.gcd a.natAbs b.natAbs : Int) = (Rat.divInt a b).num ∧ b.fdiv (Nat.gcd a.natAbs b.natAbs : Int) = ((Rat.divInt a b).den : Int) ∧ BQ n (Rat.divInt a b) := by
  have hg : 0 < Nat.gcd a.natAbs b.natAbs := Nat.gcd_pos_of_pos_right _ (by omega)
  have da : (Nat.gcd a.natAbs b.natAbs : Int) ∣ a := Int.ofNat_dvd_left.mpr (Nat.gcd_dvd_left _ _)
  have db : (Nat.gcd a.natAbs b.natAbs : Int) ∣ b := Int.ofNat_dvd_left.mpr (Nat.gcd_dvd_right _ _)
  generalize hG : Nat.gcd a.natAbs b.natAbs = G at *
  have G0 : (G : Int) ≠ 0 := by omega
  have ea := fd_exact da G0
  have eb := fd_exact db G0
  have i : IsM n (a.fdiv G) (b.fdiv G) a b := by
    refine ⟨?_, ?_, bd_dvd da G0 h1, bd_dvd db G0 h2, ?_⟩
    · by_cases h : 0 < b.fdiv (G : Int)
      · exact h
      · have h0 : b.fdiv (G : Int) ≤ 0 := by omega
        have : b.fdiv (G : Int) * (G : Int) ≤ 0 := Int.mul_nonpos_of_nonpos_of_nonneg h0 (by omega)
        omega
    · generalize a.fdiv (G : Int) = x at *
      generalize b.fdiv (G : Int) = y at *
      subst ea eb
      rw [Int.mul_comm y, ← Int.mul_assoc]
    · have ea := congrArg Int.natAbs ea
      have eb := congrArg Int.natAbs eb
      rw [Int.natAbs_mul, Int.natAbs_natCast] at ea eb
      rw [← ea, ← eb, Nat.gcd_mul_right] at hG
      exact Nat.eq_of_mul_eq_mul_right hg (by rw [hG, Nat.one_mul])
  obtain ⟨e, bq⟩ := mQ_of (by omega) i
  injection e with _ e
  injection e with e1 e
  injection e with e2 _
  injection e1 with e1
  injection e2 with e2
  exact ⟨e1, e2, bq⟩
theorem den_pos' (q : Rat) : (0 : Int) < (q.den : Int) := by
  have := q.den_nz
  omega
theorem text_bd {i : Int} (h : Bd 1900 i) : i.natAbs.log2 < 1920 := by
  by_cases h0 : i.natAbs = 0
  · rw [h0]
    decide
  · exact Nat.lt_of_lt_of_le ((Nat.log2_lt h0).mpr h) (by decide)
theorem joinM_known (B : Nat) : ∀ (l : List (ME × Str)) (acc : Str) (ρ : En), (∀ p ∈ l, p.2.length ≤ B ∧ ∀ μ : Sto, p.1 ρ μ = some (.ok (.val (.str p.2)), μ)) → acc.length + B * l.length ≤ 16000000 → ∀ μ : Sto, joinM (l.map (·.1)) acc ρ μ = some (.ok (.val (.str (l.foldl (fun a p => a ++ p.2) acc))), μ)
  | [], acc, ρ, _, _ => fun μ => rfl
  | p :: l, acc, ρ, h, hz => fun μ => by
    obtain ⟨hy, e⟩ := h p List.mem_cons_self
    rw [List.length_cons, Nat.mul_succ] at hz
    have hl := Str.length_append acc p.2
    rw [List.map_cons, joinM_str (e μ) (by rw [hl, sizeLine_eq]; omega)]
    exact joinM_known B l (acc ++ p.2) ρ (fun m hm => h m (List.mem_cons_of_mem _ hm)) (by omega) μ
theorem join_known (B : Nat) {l : List (ME × Str)} {ρ : En} {μ : Sto} (h : ∀ p ∈ l, p.2.length ≤ B ∧ ∀ μ : Sto, p.1 ρ μ = some (.ok (.val (.str p.2)), μ)) (hz : B * l.length ≤ 16000000) : mJoin (l.map (·.1)) ρ μ = some (.ok (.val (.str (l.foldl (fun a p => a ++ p.2) Str.empty))), μ) :=
  joinM_known B l Str.empty ρ h (by show 0 + _ ≤ _; omega) μ
abbrev tI (i : Int) : Str := Str.ofString (toString i)
abbrev wQ (q : Rat) : Int := (q.num.natAbs : Int).fdiv (q.den : Int)
abbrev rQ (q : Rat) : Int := (q.num.natAbs : Int).fmod (q.den : Int)
def sgQ (q : Rat) : Str := if q.num < 0 then "-" else Str.empty
def bodyQ (q : Rat) : Str := if rQ q = 0 then tI (wQ q) else if wQ q = 0 then tI (rQ q) ++ "/" ++ tI q.den else tI (wQ q) ++ " " ++ (tI (rQ q) ++ "/" ++ tI q.den)
def mT (q : Rat) : Str := sgQ q ++ bodyQ q
theorem tI_len {i : Int} (h : Bd 1900 i) : (tI i).length ≤ 2000 := Nat.le_trans (PyProof.Rows.int_text_len_1921 (text_bd h)) (by decide)
theorem fmt_ik {m : ME} {ρ : En} {i : Int} (h : Bd 1900 i) (e : ∀ μ : Sto, m ρ μ = some (.ok (.val (.int i)), μ)) : (tI i).length ≤ 2000 ∧ ∀ μ : Sto, mFmt m ρ μ = some (.ok (.val (.str (tI i))), μ) :=
  ⟨tI_len h, fun μ => fmt_int (e μ) (text_bd h)⟩
theorem fmt_sk {m : ME} {ρ : En} {y : Str} (h : y.length ≤ 2000) (e : ∀ μ : Sto, m ρ μ = some (.ok (.val (.str y)), μ)) : y.length ≤ 2000 ∧ ∀ μ : Sto, mFmt m ρ μ = some (.ok (.val (.str y)), μ) :=
  ⟨h, fun μ => by
    show (andThen (m ρ μ) fun s μ1 => fmtK μ1 s) = _
    rw [e μ, andThen_ok]
    exact if_pos (by rw [sizeLine_eq]; omega)⟩
theorem wr_bd {q : Rat} (h : BQ 1300 q) : Bd 1900 (wQ q) ∧ Bd 1900 (rQ q) ∧ Bd 1900 (q.den : Int) := by
  refine ⟨?_, ?_, h.b.mono (by decide)⟩
  · show Bd 1900 ((q.num.natAbs : Int).fdiv (q.den : Int))
    rw [Int.fdiv_eq_ediv_of_nonneg _ (by omega)]
    have h1 : ((q.num.natAbs : Int) / (q.den : Int)).natAbs ≤ q.num.natAbs := by
      have := Int.ediv_le_self (a := (q.num.natAbs : Int)) (q.den : Int) (by omega)
      have h0 : 0 ≤ (q.num.natAbs : Int) / (q.den : Int) := Int.ediv_nonneg (by omega) (by omega)
      omega
    have h2 := h.t
    have h3 : Bd 1900 q.num := h2.mono (by decide)
    unfold Bd at h3 ⊢
    omega
  · show Bd 1900 ((q.num.natAbs : Int).fmod (q.den : Int))
    have r := fmod_range (i := (q.num.natAbs : Int)) (den_pos' q)
    have h3 : Bd 1900 (q.den : Int) := h.b.mono (by decide)
    unfold Bd at h3 ⊢
    omega
theorem mea_strx {q : Rat} (h : BQ 1300 q) (μ : Sto) : fi_Measure___str__.sem [.val (mQ q)] μ = some (.ok (.val (.str (mT q))), μ) := by
  have d := divmod_ii (i := (q.num.natAbs : Int)) (j := (q.den : Int)) 1300 (den_pos' q) h.b
  obtain ⟨b1, b2, b3⟩ := wr_bd h
  unfold mT bodyQ
  show fi_Measure___str__.sem [.val (mQ q)] μ = some (.ok (.val (.str (sgQ q ++ if (q.num.natAbs : Int).fmod (q.den : Int) = 0 then tI ((q.num.natAbs : Int).fdiv (q.den : Int)) else if (q.num.natAbs : Int).fdiv (q.den : Int) = 0 then tI ((q.num.natAbs : Int).fmod (q.den : Int)) ++ "/" ++ tI q.den else tI ((q.num.natAbs : Int).fdiv (q.den : Int)) ++ " " ++ (tI ((q.num.natAbs : Int).fmod (q.den : Int)) ++ "/" ++ tI q.den)))), μ)
  unfold wQ at b1
  unfold rQ at b2
  generalize (q.num.natAbs : Int).fdiv (q.den : Int) = W at d b1
  generalize (q.num.natAbs : Int).fmod (q.den : Int) = R at d b2
  have key : ∀ sg : Str, sg.length ≤ 2000 → finF μ.length (seqK (some (.nx, [some (.val (mQ q)), some (.val (.str sg)), some (.val (.int W)), some (.val (.int R))], μ)) (sSeq (sIf (tBl (mOp2 dEq (mVar 3) (mK (.int 0)))) (sSeq (sRet (mJoin [mFmt (mVar 1), mFmt (mVar 2)])) sNil) sNil) (sSeq (sIf (tBl (mOp2 dEq (mVar 2) (mK (.int 0)))) (sSeq (sRet (mJoin [mFmt (mVar 1), mFmt (mVar 3), mK (.str "/"), mFmt (mAttr tFls "bottom" (mVar 0))])) sNil) sNil) (sSeq (sRet (mJoin [mFmt (mVar 1), mFmt (mVar 2), mK (.str " "), mFmt (mVar 3), mK (.str "/"), mFmt (mAttr tFls "bottom" (mVar 0))])) sNil)))) = some (.ok (.val (.str (sg ++ if R = 0 then tI W else if W = 0 then tI R ++ "/" ++ tI q.den else tI W ++ " " ++ (tI R ++ "/" ++ tI q.den)))), μ) := by
    intro sg hsg
    have p1 := fmt_sk (m := mVar 1) (ρ := [some (.val (mQ q)), some (.val (.str sg)), some (.val (.int W)), some (.val (.int R))]) hsg fun μ => by simp only [ev, List.getElem?_cons_zero, List.getElem?_cons_succ, List.set_cons_zero, List.set_cons_succ, decide_eq_true_eq, Bool.not_eq_true', decide_eq_false_iff_not, Nat.reduceAdd, Bool.not_true, Bool.not_false, Option.map_some, Option.map_none]
    have p2 := fmt_ik (m := mVar 2) (ρ := [some (.val (mQ q)), some (.val (.str sg)), some (.val (.int W)), some (.val (.int R))]) b1 fun μ => by simp only [ev, List.getElem?_cons_zero, List.getElem?_cons_succ, List.set_cons_zero, List.set_cons_succ, decide_eq_true_eq, Bool.not_eq_true', decide_eq_false_iff_not, Nat.reduceAdd, Bool.not_true, Bool.not_false, Option.map_some, Option.map_none]
    have p3 := fmt_ik (m := mVar 3) (ρ := [some (.val (mQ q)), some (.val (.str sg)), some (.val (.int W)), some (.val (.int R))]) b2 fun μ => by simp only [ev, List.getElem?_cons_zero, List.getElem?_cons_succ, List.set_cons_zero, List.set_cons_succ, decide_eq_true_eq, Bool.not_eq_true', decide_eq_false_iff_not, Nat.reduceAdd, Bool.not_true, Bool.not_false, Option.map_some, Option.map_none]
    have p4 := fmt_ik (m := mAttr tFls "bottom" (mVar 0)) (ρ := [some (.val (mQ q)), some (.val (.str sg)), some (.val (.int W)), some (.val (.int R))]) b3 fun μ => by simp only [ev, List.getElem?_cons_zero, List.getElem?_cons_succ, List.set_cons_zero, List.set_cons_succ, decide_eq_true_eq, Bool.not_eq_true', decide_eq_false_iff_not, Nat.reduceAdd, Bool.not_true, Bool.not_false, Option.map_some, Option.map_none, q_bottom]
    have s1 : ("/" : Str).length ≤ 2000 ∧ ∀ μ : Sto, mK (.str "/") [some (.val (mQ q)), some (.val (.str sg)), some (.val (.int W)), some (.val (.int R))] μ = some (.ok (.val (.str "/")), μ) := ⟨by decide, fun μ => mK_ap⟩
    have s2 : (" " : Str).length ≤ 2000 ∧ ∀ μ : Sto, mK (.str " ") [some (.val (mQ q)), some (.val (.str sg)), some (.val (.int W)), some (.val (.int R))] μ = some (.ok (.val (.str " ")), μ) := ⟨by decide, fun μ => mK_ap⟩
    by_cases c1 : R = 0
    · have e := join_known (ρ := [some (.val (mQ q)), some (.val (.str sg)), some (.val (.int W)), some (.val (.int R))]) (μ := μ) 2000 (l := [(mFmt (mVar 1), sg), (mFmt (mVar 2), tI W)]) (fun p hp => by
        simp only [List.mem_cons, List.not_mem_nil, or_false] at hp
        rcases hp with rfl | rfl
        · exact p1
        · exact p2) (by show 2000 * 2 ≤ _; decide)
      simp only [List.map_cons, List.map_nil, List.foldl_cons, List.foldl_nil, Str.empty_append] at e
      rw [if_pos c1]
      have c1' := eq_true c1
      simp only [ev, List.getElem?_cons_zero, List.getElem?_cons_succ, List.set_cons_zero, List.set_cons_succ, decide_eq_true_eq, Bool.not_eq_true', decide_eq_false_iff_not, Nat.reduceAdd, Bool.not_true, Bool.not_false, Option.map_some, Option.map_none, c1', decide_true, e, List.take_length]
    · have c1' := eq_false c1
      rw [if_neg c1]
      by_cases c2 : W = 0
      · have e := join_known (ρ := [some (.val (mQ q)), some (.val (.str sg)), some (.val (.int W)), some (.val (.int R))]) (μ := μ) 2000 (l := [(mFmt (mVar 1), sg), (mFmt (mVar 3), tI R), (mK (.str "/"), "/"), (mFmt (mAttr tFls "bottom" (mVar 0)), tI q.den)]) (fun m hm => by
          simp only [List.mem_cons, List.not_mem_nil, or_false] at hm
          rcases hm with rfl | rfl | rfl | rfl
          · exact p1
          · exact p3
          · exact s1
          · exact p4) (by show 2000 * 4 ≤ _; decide)
        simp only [List.map_cons, List.map_nil, List.foldl_cons, List.foldl_nil, Str.empty_append, Str.append_assoc] at e
        rw [if_pos c2]
        simp only [Str.append_assoc]
        have c2' := eq_true c2
        simp only [ev, List.getElem?_cons_zero, List.getElem?_cons_succ, List.set_cons_zero, List.set_cons_succ, decide_eq_true_eq, Bool.not_eq_true', decide_eq_false_iff_not, Nat.reduceAdd, Bool.not_true, Bool.not_false, Option.map_some, Option.map_none, c1', c2', decide_true, decide_false, e, List.take_length]
      · have e := join_known (ρ := [some (.val (mQ q)), some (.val (.str sg)), some (.val (.int W)), some (.val (.int R))]) (μ := μ) 2000 (l := [(mFmt (mVar 1), sg), (mFmt (mVar 2), tI W), (mK (.str " "), " "), (mFmt (mVar 3), tI R), (mK (.str "/"), "/"), (mFmt (mAttr tFls "bottom" (mVar 0)), tI q.den)]) (fun m hm => by
          simp only [List.mem_cons, List.not_mem_nil, or_false] at hm
          rcases hm with rfl | rfl | rfl | rfl | rfl | rfl
          · exact p1
          · exact p2
          · exact s2
          · exact p3
          · exact s1
          · exact p4) (by show 2000 * 6 ≤ _; decide)
        simp only [List.map_cons, List.map_nil, List.foldl_cons, List.foldl_nil, Str.empty_append, Str.append_assoc] at e
        rw [if_neg c2]
        simp only [Str.append_assoc]
        have c2' := eq_false c2
        simp only [ev, List.getElem?_cons_zero, List.getElem?_cons_succ, List.set_cons_zero, List.set_cons_succ, decide_eq_true_eq, Bool.not_eq_true', decide_eq_false_iff_not, Nat.reduceAdd, Bool.not_true, Bool.not_false, Option.map_some, Option.map_none, c1', c2', decide_false, e, List.take_length]
  rw [sem_Measure___str__]
  unfold c_Measure___str__
  unfold sgQ
  by_cases hs : q.num < 0
  · rw [← key _ (show (if q.num < 0 then ("-" : Str) else Str.empty).length ≤ 2000 by rw [if_pos hs]; decide), if_pos hs]
    have hs' := eq_true hs
    simp only [ev, List.getElem?_cons_zero, List.getElem?_cons_succ, List.set_cons_zero, List.set_cons_succ, decide_eq_true_eq, Bool.not_eq_true', decide_eq_false_iff_not, Nat.reduceAdd, Bool.not_true, Bool.not_false, Option.map_some, Option.map_none, q_top, q_bottom, hs', decide_true, d]
  · rw [← key _ (show (if q.num < 0 then ("-" : Str) else Str.empty).length ≤ 2000 by rw [if_neg hs]; decide), if_neg hs]
    have hs' := eq_false hs
    simp only [ev, List.getElem?_cons_zero, List.getElem?_cons_succ, List.set_cons_zero, List.set_cons_succ, decide_eq_true_eq, Bool.not_eq_true', decide_eq_false_iff_not, Nat.reduceAdd, Bool.not_true, Bool.not_false, Option.map_some, Option.map_none, q_top, q_bottom, hs', decide_false, d]
    all_goals rfl
abbrev sT (l : List Nat) : Str := SX.S l
theorem sT_tl {l : List Nat} : (sT l).cps.toList = l := by simp [sT, SX.S]
theorem sT_len {l : List Nat} : (sT l).length = l.length := SX.S_len l
theorem sT_dec {a b : List Nat} : decide (sT a = sT b) = decide (a = b) := decide_eq_decide.mpr ⟨SX.S_inj, fun h => by rw [h]⟩
/-- the first c parts a row -/
def spF (c : Nat) (l : List Nat) : Option (List Nat × List Nat) := if c ∈ l then some (l.takeWhile (· != c), (l.dropWhile (· != c)).drop 1) else none
theorem spF_none {c : Nat} {l : List Nat} : spF c l = none ↔ c ∉ l := by
  unfold spF
  split <;> rename_i h <;> simp [h]
theorem spF_hit {c : Nat} {a b : List Nat} (h : c ∉ a) : spF c (a ++ c :: b) = some (a, b) := by
  have ha : ∀ x ∈ a, (x != c) = true := fun x hx => by
    rw [bne_iff_ne]
    intro e
    exact h (e ▸ hx)
  unfold spF
  rw [if_pos (by simp), List.takeWhile_append_of_pos ha, List.dropWhile_append_of_pos ha, List.takeWhile_cons_of_neg (by simp), List.dropWhile_cons_of_neg (by simp), List.append_nil]
  rfl
theorem spF_some {c : Nat} : ∀ {l a b : List Nat}, spF c l = some (a, b) → l = a ++ c :: b ∧ c ∉ a
  | [], a, b, h => by simp [spF] at h
  | x :: l, a, b, h => by
    by_cases hx : x = c
    · subst hx
      have e := spF_hit (c := x) (a := []) (b := l) (by simp)
      rw [List.nil_append] at e
      rw [e] at h
      cases h
      exact ⟨rfl, by simp⟩
    · unfold spF at h
      split at h
      · rename_i hm
        have hm2 : c ∈ l := by
          rcases List.mem_cons.mp hm with e | e
          · exact absurd e.symm hx
          · exact e
        have hb : (x != c) = true := bne_iff_ne.mpr hx
        have t1 : (x :: l).takeWhile (· != c) = x :: l.takeWhile (· != c) := List.takeWhile_cons_of_pos hb
        have t2 : (x :: l).dropWhile (· != c) = l.dropWhile (· != c) := List.dropWhile_cons_of_pos hb
        rw [t1, t2] at h
        cases h
        obtain ⟨i1, i2⟩ := spF_some (c := c) (l := l) (a := l.takeWhile (· != c)) (b := (l.dropWhile (· != c)).drop 1) (by unfold spF; rw [if_pos hm2])
        refine ⟨?_, ?_⟩
        · rw [List.cons_append, ← i1]
        · simp only [List.mem_cons, not_or]
          exact ⟨fun e => hx e.symm, i2⟩
      · cases h
/-- the last c parts a row -/
def spR (c : Nat) (l : List Nat) : Option (List Nat × List Nat) := (spF c l.reverse).map fun p => (p.2.reverse, p.1.reverse)
theorem spR_none {c : Nat} {l : List Nat} : spR c l = none ↔ c ∉ l := by
  unfold spR
  rw [Option.map_eq_none_iff, spF_none, List.mem_reverse]
theorem spR_hit {c : Nat} {a b : List Nat} (h : c ∉ b) : spR c (a ++ c :: b) = some (a, b) := by
  unfold spR
  have e : (a ++ c :: b).reverse = b.reverse ++ c :: a.reverse := by simp
  rw [e, spF_hit (by rw [List.mem_reverse]; exact h)]
  simp
theorem spR_some {c : Nat} {l a b : List Nat} (h : spR c l = some (a, b)) : l = a ++ c :: b ∧ c ∉ b := by
  unfold spR at h
  obtain ⟨p, hp, e⟩ := Option.map_eq_some_iff.mp h
  cases e
  obtain ⟨i1, i2⟩ := spF_some hp
  refine ⟨?_, by rw [List.mem_reverse]; exact i2⟩
  have := congrArg List.reverse i1
  simpa using this
theorem at_one {c : Nat} {l : List Nat} {i : Nat} : StrLaws.At (sT l) (sT [c]) (sT l).length i ↔ l[i]? = some c := by
  unfold StrLaws.At
  rw [StrLaws.subAt_eq, sT_tl, sT_tl, sT_len, sT_len, beq_iff_eq]
  have e1 : ([c] : List Nat).length = 1 := rfl
  rw [e1]
  constructor
  · rintro ⟨h1, h2⟩
    have hi : i < l.length := by omega
    rw [List.drop_eq_getElem_cons hi, List.take_succ_cons, List.take_zero] at h2
    rw [List.getElem?_eq_getElem hi]
    injection h2 with h2
    rw [h2]
  · intro h
    obtain ⟨hi, e⟩ := List.getElem?_eq_some_iff.mp h
    refine ⟨by omega, ?_⟩
    rw [List.drop_eq_getElem_cons hi, List.take_succ_cons, List.take_zero, e]
theorem sub_sT {l : List Nat} {i j : Nat} : Builtin.Str.strSub (sT l) i j = sT ((l.drop i).take (j - i)) := TL.ext_tl (by
  show (Builtin.Str.strSub (sT l) i j).cps.toList = (sT ((l.drop i).take (j - i))).cps.toList
  rw [StrLaws.strSub_toList, sT_tl, sT_tl])
theorem get_mid {a b : List Nat} {c : Nat} : (a ++ c :: b)[a.length]? = some c := by
  rw [List.getElem?_append_right (Nat.le_refl _), Nat.sub_self]
  rfl
theorem sub_parts {a b : List Nat} {c : Nat} : Builtin.Str.strSub (sT (a ++ c :: b)) 0 a.length = sT a ∧ Builtin.Str.strSub (sT (a ++ c :: b)) (a.length + (sT [c]).length) (sT (a ++ c :: b)).length = sT b := by
  constructor
  · rw [sub_sT, List.drop_zero, Nat.sub_zero, List.take_left]
  · rw [sub_sT, sT_len, sT_len]
    have e : (a ++ c :: b).drop (a.length + [c].length) = b := by
      have e1 : a ++ c :: b = (a ++ [c]) ++ b := by simp
      rw [e1, show a.length + [c].length = (a ++ [c]).length by simp, List.drop_left]
    rw [e]
    have e2 : (a ++ c :: b).length - (a.length + [c].length) = b.length := by
      rw [List.length_append, List.length_cons]
      show _ - (_ + 1) = _
      omega
    rw [e2, List.take_length]
theorem part_hit {a b : List Nat} {c : Nat} (h : c ∉ a) : Txt.partition (sT (a ++ c :: b)) (sT [c]) = (sT a, sT [c], sT b) := by
  unfold Txt.partition
  rcases StrLaws.occ_head (sT (a ++ c :: b)) (sT [c]) 1 (Nat.le_refl 1) with ⟨_, hn⟩ | ⟨i, r, e, hA, hB⟩
  · exact absurd (at_one.mpr get_mid) (hn a.length)
  · rw [e]
    have hi := at_one.mp hA
    have hia : i = a.length := by
      rcases Nat.lt_trichotomy i a.length with q | q | q
      · rw [List.getElem?_append_left q] at hi
        exact absurd (List.mem_of_getElem? hi) h
      · exact q
      · exact absurd (at_one.mpr get_mid) (hB a.length q)
    subst hia
    show (Builtin.Str.strSub _ 0 a.length, sT [c], Builtin.Str.strSub _ (a.length + (sT [c]).length) _) = _
    rw [sub_parts.1, sub_parts.2]
theorem part_miss {l : List Nat} {c : Nat} (h : c ∉ l) : Txt.partition (sT l) (sT [c]) = (sT l, sT [], sT []) := by
  unfold Txt.partition
  rcases StrLaws.occ_head (sT l) (sT [c]) 1 (Nat.le_refl 1) with ⟨e, _⟩ | ⟨i, r, e, hA, hB⟩
  · rw [e]
    rfl
  · exact absurd (List.mem_of_getElem? (at_one.mp hA)) h
theorem rpart_hit {a b : List Nat} {c : Nat} (h : c ∉ b) : Txt.rpartition (sT (a ++ c :: b)) (sT [c]) = (sT a, sT [c], sT b) := by
  unfold Txt.rpartition
  rcases StrLaws.last_spec (sT (a ++ c :: b)) (sT [c]) with ⟨_, hn⟩ | ⟨i, e, hA, hB⟩
  · exact absurd (at_one.mpr get_mid) (hn a.length)
  · rw [e]
    have hi := at_one.mp hA
    have hia : i = a.length := by
      rcases Nat.lt_trichotomy i a.length with q | q | q
      · exact absurd (at_one.mpr get_mid) (hB a.length q)
      · exact q
      · rw [List.getElem?_append_right (by omega)] at hi
        cases hj : i - a.length with
        | zero => omega
        | succ j =>
          rw [hj, List.getElem?_cons_succ] at hi
          exact absurd (List.mem_of_getElem? hi) h
    subst hia
    show (Builtin.Str.strSub _ 0 a.length, sT [c], Builtin.Str.strSub _ (a.length + (sT [c]).length) _) = _
    rw [sub_parts.1, sub_parts.2]
theorem rpart_miss {l : List Nat} {c : Nat} (h : c ∉ l) : Txt.rpartition (sT l) (sT [c]) = (sT [], sT [], sT l) := by
  unfold Txt.rpartition
  rcases StrLaws.last_spec (sT l) (sT [c]) with ⟨e, _⟩ | ⟨i, e, hA, hB⟩
  · rw [e]
    rfl
  · exact absurd (List.mem_of_getElem? (at_one.mp hA)) h
theorem one_len {c : Nat} : ((sT [c]).length == 0) = false := by rw [sT_len]; rfl
theorem dPart_one {l : List Nat} {c : Nat} (h : l.length ≤ 16000000) : dPart (.str (sT l)) (.str (sT [c])) = some (.val (match spF c l with
    | some (a, b) => .tup [.str (sT a), .str (sT [c]), .str (sT b)]
    | none => .tup [.str (sT l), .str (sT []), .str (sT [])])) := by
  rw [dPart_some one_len (by rw [sT_len, sizeLine_eq]; omega)]
  cases e : spF c l with
  | none => rw [part_miss (spF_none.mp e)]
  | some p =>
    obtain ⟨a, b⟩ := p
    obtain ⟨e1, e2⟩ := spF_some e
    rw [e1, part_hit e2]
theorem dRPart_one {l : List Nat} {c : Nat} (h : l.length ≤ 16000000) : dRPart (.str (sT l)) (.str (sT [c])) = some (.val (match spR c l with
    | some (a, b) => .tup [.str (sT a), .str (sT [c]), .str (sT b)]
    | none => .tup [.str (sT []), .str (sT []), .str (sT l)])) := by
  rw [dRPart_some one_len (by rw [sT_len, sizeLine_eq]; omega)]
  cases e : spR c l with
  | none => rw [rpart_miss (spR_none.mp e)]
  | some p =>
    obtain ⟨a, b⟩ := p
    obtain ⟨e1, e2⟩ := spR_some e
    rw [e1, rpart_hit e2]
theorem in_sT {l : List Nat} {c : Nat} : dIn (.str (sT [c])) (.str (sT l)) = some (.val (.bl (decide (c ∈ l)))) := congrArg (fun b => some (S.val (.bl b))) (SX.in_one l c)
theorem notin_sT {l : List Nat} {c : Nat} : dNotIn (.str (sT [c])) (.str (sT l)) = some (.val (.bl (!decide (c ∈ l)))) := congrArg (fun b => some (S.val (.bl (!b)))) (SX.in_one l c)
theorem eq_sT {a b : List Nat} : dEq (.str (sT a)) (.str (sT b)) = some (.val (.bl (decide (a = b)))) := congrArg (fun b => some (S.val (.bl b))) sT_dec
theorem ne_sT {a b : List Nat} : dNe (.str (sT a)) (.str (sT b)) = some (.val (.bl (!decide (a = b)))) := congrArg (fun b => some (S.val (.bl (!b)))) sT_dec
theorem len_sT {l : List Nat} (h : l.length ≤ 16000000) : bLen [.str (sT l)] = some (.val (.int (l.length : Int))) := by
  have e : bLen [.str (sT l)] = some (.val (.int ((sT l).length : Int))) := if_pos (by rw [sT_len, sizeLine_eq]; omega)
  rw [e, sT_len]
theorem six_nat {n d k : Nat} : HT.sIx n d (some (k : Int)) = min k n := by
  unfold HT.sIx
  first
    | (split <;> omega)
    | (simp; omega)
    | omega
theorem sl_to1 {l : List Nat} {k : Nat} (h : l.length ≤ 16000000) : dSl (.str (sT l)) none (some (k : Int)) = some (.val (.str (sT (l.take k)))) := by
  have e : cutS (sT l) none (some (k : Int)) = sT (l.take k) := by
    unfold cutS
    rw [sT_tl, sT_len, six_nat]
    show sT ((l.drop 0).take (min k l.length - 0)) = _
    rw [List.drop_zero, Nat.sub_zero]
    congr 1
    rw [Nat.min_comm, List.take_eq_take_iff]
    omega
  rw [← e]
  exact if_pos (by rw [sT_len, sizeLine_eq]; omega)
theorem sl_from1 {l : List Nat} {k : Nat} (h : l.length ≤ 16000000) : dSl (.str (sT l)) (some (k : Int)) none = some (.val (.str (sT (l.drop k)))) := by
  have e : cutS (sT l) (some (k : Int)) none = sT (l.drop k) := by
    unfold cutS
    rw [sT_tl, sT_len, six_nat]
    show sT ((l.drop (min k l.length)).take (l.length - min k l.length)) = _
    by_cases hk : k ≤ l.length
    · rw [Nat.min_eq_left hk, List.take_of_length_le (by rw [List.length_drop]; omega)]
    · rw [Nat.min_eq_right (by omega), List.drop_length, List.drop_eq_nil_of_le (by omega), List.take_nil]
  rw [← e]
  exact if_pos (by rw [sT_len, sizeLine_eq]; omega)
def isFig (c : Nat) : Bool := decide (48 ≤ c) && decide (c ≤ 57)
def valF (l : List Nat) : Nat := NumText.digitsVal l
def figN (l : List Nat) : Option Nat := if 1 ≤ l.length ∧ l.length ≤ 12 ∧ l.all isFig = true then some (valF l) else none
def oN : Option Nat → D
  | none => .non
  | some n => .int (n : Int)
theorem figs_text : ("0123456789" : Str) = sT [48, 49, 50, 51, 52, 53, 54, 55, 56, 57] := by decide +kernel
theorem mem_figs {c : Nat} : decide (c ∈ [48, 49, 50, 51, 52, 53, 54, 55, 56, 57]) = isFig c := by
  unfold isFig
  rw [Bool.eq_iff_iff, decide_eq_true_eq, Bool.and_eq_true, decide_eq_true_eq, decide_eq_true_eq]
  simp only [List.mem_cons, List.not_mem_nil, or_false]
  omega
theorem in_figs {c : Nat} : dIn (.str ⟨#[c]⟩) (.str "0123456789") = some (.val (.bl (isFig c))) := by
  rw [figs_text, ← mem_figs]
  exact in_sT
theorem bInt_figs {l : List Nat} (h1 : l.all isFig = true) (h2 : l ≠ []) (h3 : l.length ≤ 640) : bInt [.str (sT l)] = some (.val (.int (valF l : Int))) := by
  have e : PySem.intText? (sT l) = some ((NumText.digitsVal l : Nat) : Int) := SX.int_S h1 h2 (by omega)
  show (match PySem.intText? (sT l) with
    | some n => if (sT l).length ≤ 640 then some (S.val (.int n)) else none
    | none => none) = _
  rw [e]
  exact if_pos (by rw [sT_len]; exact h3)
theorem items_sT {l : List Nat} {ρ : En} {μ : Sto} {m : ME} (h : m ρ μ = some (.ok (.val (.str (sT l))), μ)) : iVal m ρ μ = some (.ok (l.map fun c => .str ⟨#[c]⟩), μ) := by
  unfold iVal
  rw [h, andThen_ok]
  show some (Except.ok ((sT l).cps.toList.map fun c => D.str ⟨#[c]⟩), μ) = _
  rw [sT_tl]
theorem figures_call {l : List Nat} {μ : Sto} (hl : l.length ≤ 16000000) : callF fi_figures_in 1 [] [.val (.str (sT l))] [] μ = some (.ok (.val (oN (figN l))), μ) := by
  rw [cl_figures_in_1, sem_figures_in]
  unfold c_figures_in
  have len := len_sT hl
  by_cases c1 : (1 : Int) ≤ (l.length : Int)
  · by_cases c2 : (l.length : Int) ≤ 12
    · have hc : mComp (iVal (mVar 0)) (gNm 1 false) tTrue (mOp2 dIn (mVar 1) (mK (.str "0123456789"))) [1] [some (.val (.str (sT l))), none] μ = some (.ok (.fr (l.map fun c => .bl (isFig c))), μ) := by
        have e := comp_mapL (l := l) (ρ := [some (.val (.str (sT l))), none]) (μ := μ) (ow := [1]) (t := gNm 1 false) (el := mOp2 dIn (mVar 1) (mK (.str "0123456789"))) (fun c => .str ⟨#[c]⟩) (fun c => .bl (isFig c)) (items_sT (m := mVar 0) (μ := μ) (l := l) (by simp only [ev, List.getElem?_cons_zero, List.getElem?_cons_succ, List.set_cons_zero, List.set_cons_succ, decide_eq_true_eq, Bool.not_eq_true', decide_eq_false_iff_not, Nat.reduceAdd, Bool.not_true, Bool.not_false, Option.map_some, Option.map_none])) (by omega) fun c hc ν => ⟨_, rfl, by
          simp only [ev, List.getElem?_cons_zero, List.getElem?_cons_succ, List.set_cons_zero, List.set_cons_succ, decide_eq_true_eq, Bool.not_eq_true', decide_eq_false_iff_not, Nat.reduceAdd, Bool.not_true, Bool.not_false, Option.map_some, Option.map_none, wipeE, in_figs]⟩
        exact e
      have ea : bAll [.lst (l.map fun c => D.bl (isFig c))] = some (.val (.bl (l.all isFig))) := all_map2
      have c1' := eq_true c1
      have c2' := eq_true c2
      by_cases c3 : l.all isFig = true
      · rw [c3] at ea
        have ei := bInt_figs c3 (by intro e; subst e; simp at c1) (by omega)
        have e : figN l = some (valF l) := if_pos ⟨by omega, by omega, c3⟩
        rw [e]
        simp only [ev, List.getElem?_cons_zero, List.getElem?_cons_succ, List.set_cons_zero, List.set_cons_succ, decide_eq_true_eq, Bool.not_eq_true', decide_eq_false_iff_not, Nat.reduceAdd, Bool.not_true, Bool.not_false, Option.map_some, Option.map_none, len, c1', c2', decide_true, hc, ea, ei, List.take_length]
        rfl
      · have c3' : l.all isFig = false := by simpa using c3
        rw [c3'] at ea
        have e : figN l = none := if_neg fun h => c3 h.2.2
        rw [e]
        simp only [ev, List.getElem?_cons_zero, List.getElem?_cons_succ, List.set_cons_zero, List.set_cons_succ, decide_eq_true_eq, Bool.not_eq_true', decide_eq_false_iff_not, Nat.reduceAdd, Bool.not_true, Bool.not_false, Option.map_some, Option.map_none, len, c1', c2', decide_true, hc, ea, List.take_length]
        rfl
    · have e : figN l = none := if_neg fun h => by omega
      rw [e]
      have c1' := eq_true c1
      have c2' := eq_false c2
      simp only [ev, List.getElem?_cons_zero, List.getElem?_cons_succ, List.set_cons_zero, List.set_cons_succ, decide_eq_true_eq, Bool.not_eq_true', decide_eq_false_iff_not, Nat.reduceAdd, Bool.not_true, Bool.not_false, Option.map_some, Option.map_none, len, c1', c2', decide_true, decide_false, List.take_length]
      rfl
  · have e : figN l = none := if_neg fun h => by omega
    rw [e]
    have c1' := eq_false c1
    simp only [ev, List.getElem?_cons_zero, List.getElem?_cons_succ, List.set_cons_zero, List.set_cons_succ, decide_eq_true_eq, Bool.not_eq_true', decide_eq_false_iff_not, Nat.reduceAdd, Bool.not_true, Bool.not_false, Option.map_some, Option.map_none, len, c1', decide_false, List.take_length]
    rfl
def ptM : Option Nat → Option Nat → Option (Nat × Nat)
  | some x, some y => if y = 0 then none else some (x, y)
  | _, _ => none
def ptL (l : List Nat) : Option (Nat × Nat) := match spF 47 l with
  | some (a, b) => ptM (figN a) (figN b)
  | none => none
def oP : Option (Nat × Nat) → D
  | none => .non
  | some p => .tup [.int (p.1 : Int), .int (p.2 : Int)]
theorem slash : ("/" : Str) = sT [47] := by decide +kernel
theorem blank : (" " : Str) = sT [32] := by decide +kernel
theorem minus : ("-" : Str) = sT [45] := by decide +kernel
theorem nosign : ("" : Str) = sT [] := by decide +kernel
theorem non_in {x y : Option Nat} : dIn .non (.tup [oN x, oN y]) = some (.val (.bl (x.isNone || y.isNone))) := by
  cases x <;> cases y <;> rfl
theorem eq_n0 {y : Nat} : dEq (.int (y : Int)) (.int 0) = some (.val (.bl (decide (y = 0)))) := by
  rw [eq_ii]
  congr 3
  exact decide_eq_decide.mpr (by omega)
theorem part_in_call {l : List Nat} {μ : Sto} (hl : l.length ≤ 16000000) : callF fi_part_in 1 [] [.val (.str (sT l))] [] μ = some (.ok (.val (oP (ptL l))), μ) := by
  rw [cl_part_in_1, sem_part_in]
  unfold c_part_in
  rw [slash, nosign]
  have dp := dPart_one (c := 47) hl
  unfold ptL
  cases e : spF 47 l with
  | none =>
    rw [e] at dp
    have f1 := figures_call (μ := μ) hl
    have f2 := figures_call (l := []) (μ := μ) (by decide)
    have q : dEq (.str (sT [])) (.str (sT [])) = some (.val (.bl true)) := by rw [eq_sT]; rfl
    simp only [ev, List.getElem?_cons_zero, List.getElem?_cons_succ, List.set_cons_zero, List.set_cons_succ, decide_eq_true_eq, Bool.not_eq_true', decide_eq_false_iff_not, Nat.reduceAdd, Bool.not_true, Bool.not_false, Option.map_some, Option.map_none, dp, f1, f2, q, List.take_length]
    rfl
  | some p =>
    obtain ⟨a, b⟩ := p
    rw [e] at dp
    obtain ⟨e1, e2⟩ := spF_some e
    have la : a.length ≤ 16000000 := by rw [e1, List.length_append] at hl; omega
    have lb : b.length ≤ 16000000 := by rw [e1, List.length_append, List.length_cons] at hl; omega
    have f1 := figures_call (μ := μ) la
    have f2 := figures_call (μ := μ) lb
    have q : dEq (.str (sT [47])) (.str (sT [])) = some (.val (.bl false)) := by rw [eq_sT]; rfl
    have nn := non_in (x := figN a) (y := figN b)
    show _ = some (Except.ok (S.val (oP (ptM (figN a) (figN b)))), μ)
    cases hx : figN a with
    | none =>
      rw [hx] at f1 nn
      have nn : dIn .non (.tup [oN none, oN (figN b)]) = some (.val (.bl true)) := nn
      simp only [ev, List.getElem?_cons_zero, List.getElem?_cons_succ, List.set_cons_zero, List.set_cons_succ, decide_eq_true_eq, Bool.not_eq_true', decide_eq_false_iff_not, Nat.reduceAdd, Bool.not_true, Bool.not_false, Option.map_some, Option.map_none, dp, f1, f2, q, nn, List.take_length]
      rfl
    | some x =>
      rw [hx] at f1 nn
      cases hy : figN b with
      | none =>
        rw [hy] at f2 nn
        have nn : dIn .non (.tup [oN (some x), oN none]) = some (.val (.bl true)) := nn
        simp only [ev, List.getElem?_cons_zero, List.getElem?_cons_succ, List.set_cons_zero, List.set_cons_succ, decide_eq_true_eq, Bool.not_eq_true', decide_eq_false_iff_not, Nat.reduceAdd, Bool.not_true, Bool.not_false, Option.map_some, Option.map_none, dp, f1, f2, q, nn, List.take_length]
        rfl
      | some y =>
        rw [hy] at f2 nn
        have nn : dIn .non (.tup [oN (some x), oN (some y)]) = some (.val (.bl false)) := nn
        have a1 : atI [oN (some x), oN (some y)] 1 = some (.int (y : Int)) := rfl
        have q0 := eq_n0 (y := y)
        by_cases h0 : y = 0
        · rw [decide_eq_true h0] at q0
          rw [show ptM (some x) (some y) = none from if_pos h0]
          simp only [ev, List.getElem?_cons_zero, List.getElem?_cons_succ, List.set_cons_zero, List.set_cons_succ, decide_eq_true_eq, Bool.not_eq_true', decide_eq_false_iff_not, Nat.reduceAdd, Bool.not_true, Bool.not_false, Option.map_some, Option.map_none, dp, f1, f2, q, nn, a1, q0, List.take_length]
          rfl
        · rw [decide_eq_false h0] at q0
          rw [show ptM (some x) (some y) = some (x, y) from if_neg h0]
          simp only [ev, List.getElem?_cons_zero, List.getElem?_cons_succ, List.set_cons_zero, List.set_cons_succ, decide_eq_true_eq, Bool.not_eq_true', decide_eq_false_iff_not, Nat.reduceAdd, Bool.not_true, Bool.not_false, Option.map_some, Option.map_none, dp, f1, f2, q, nn, a1, q0, List.take_length]
          rfl
theorem IsM.to {n : Nat} {v w p q a b : Int} (h : IsM n v w p q) (hq : q ≠ 0) (e : p * b = a * q) : IsM n v w a b := by
  refine ⟨h.pos, ?_, h.b1, h.b2, h.low⟩
  have h1 : v * b * q = a * w * q := by
    have : v * b * q = (v * q) * b := by ac_rfl
    rw [this, h.eq]
    have : p * w * b = (p * b) * w := by ac_rfl
    rw [this, e]
    ac_rfl
  exact Int.eq_of_mul_eq_mul_right hq h1
theorem IsM.mono {n m : Nat} {v w a b : Int} (h : IsM n v w a b) (e : n ≤ m) : IsM m v w a b := ⟨h.pos, h.eq, h.b1.mono e, h.b2.mono e, h.low⟩
theorem common2 {a b : Nat} {μ : Sto} : callF fi_l_common 2 [] [.val (.int (a : Int)), .val (.int (b : Int))] [] μ = some (.ok (.val (.int (Nat.gcd a b : Int))), μ) := by
  rw [show callF fi_l_common 2 [] [.val (.int (a : Int)), .val (.int (b : Int))] [] μ = fi_l_common.sem [.val (.int (a : Int)), .val (.int (b : Int))] μ from callF_eq rfl rfl rfl]
  rw [show fi_l_common.sem [.val (.int (a : Int)), .val (.int (b : Int))] μ = finF μ.length (c_l_common [some (.val (.int (a : Int))), some (.val (.int (b : Int)))] μ) from rfl]
  unfold c_l_common
  obtain ⟨n, hn⟩ := euclid (t := tBl (mOp2 dGt (mVar 1) (mK (.int 0)))) (b := c_l_common_b1) (mk := fun x y => [some (.val (.int (x : Int))), some (.val (.int (y : Int)))]) (μ := μ)
    (fun x => by simp only [ev, List.getElem?_cons_zero, List.getElem?_cons_succ, List.set_cons_zero, List.set_cons_succ, decide_eq_true_eq, Bool.not_eq_true', decide_eq_false_iff_not, Nat.reduceAdd, Bool.not_true, Bool.not_false, Option.map_some, Option.map_none]; rfl) (fun x y hy => by simp only [ev, List.getElem?_cons_zero, List.getElem?_cons_succ, List.set_cons_zero, List.set_cons_succ, decide_eq_true_eq, Bool.not_eq_true', decide_eq_false_iff_not, Nat.reduceAdd, Bool.not_true, Bool.not_false, Option.map_some, Option.map_none]; rw [decide_eq_true (by omega)]) (fun x y hy => by
      have q := mod_ii (i := (x : Int)) (j := (y : Int)) (by omega)
      unfold c_l_common_b1
      simp only [ev, List.getElem?_cons_zero, List.getElem?_cons_succ, List.set_cons_zero, List.set_cons_succ, decide_eq_true_eq, Bool.not_eq_true', decide_eq_false_iff_not, Nat.reduceAdd, Bool.not_true, Bool.not_false, Option.map_some, Option.map_none, q]
      rw [Int.fmod_eq_emod_of_nonneg _ (by omega)]
      rfl) b a
  have hn := sWhile_eq n hn
  simp only [ev, List.getElem?_cons_zero, List.getElem?_cons_succ, List.set_cons_zero, List.set_cons_succ, decide_eq_true_eq, Bool.not_eq_true', decide_eq_false_iff_not, Nat.reduceAdd, Bool.not_true, Bool.not_false, Option.map_some, Option.map_none, hn]
  rw [List.take_length]
theorem isi_ob {t u : Int} : bIsi nKit nKit subK [Ob t u, .cls 0] = some (.val (.bl true)) := rfl
/-- the law's own look at a fraction -/
theorem is_call {n m : Nat} {t u a b : Int} {μ : Sto} (h : IsM n t u a b) (ha : Bd m a) (hb : Bd m b) (hn : n + m ≤ 134217728 := by decide) :
    callF fi_l_is 3 [] [.val (Ob t u), .val (.int a), .val (.int b)] [] μ = some (.ok (.val (.bl true)), μ) := by
  rw [show callF fi_l_is 3 [] [.val (Ob t u), .val (.int a), .val (.int b)] [] μ = fi_l_is.sem [.val (Ob t u), .val (.int a), .val (.int b)] μ from callF_eq rfl rfl rfl]
  rw [show fi_l_is.sem [.val (Ob t u), .val (.int a), .val (.int b)] μ = finF μ.length (c_l_is [some (.val (Ob t u)), some (.val (.int a)), some (.val (.int b))] μ) from rfl]
  unfold c_l_is
  have m1 := mul_bd n m h.b1 hb hn
  have m2 := mul_bd m n ha h.b2 (by omega)
  have c1 : ∀ ν : Sto, callF fi_l_common 2 [] [.val (.int (t.natAbs : Int)), .val (.int u)] [] ν = some (.ok (.val (.int 1)), ν) := fun ν => by
    have e := common2 (a := t.natAbs) (b := u.natAbs) (μ := ν)
    rw [h.low] at e
    have hu : (u.natAbs : Int) = u := by have := h.pos; omega
    rw [hu] at e
    exact e
  have k1 : ¬ u < 1 := by have := h.pos; omega
  simp only [ev, List.getElem?_cons_zero, List.getElem?_cons_succ, List.set_cons_zero, List.set_cons_succ, decide_eq_true_eq, Bool.not_eq_true', decide_eq_false_iff_not, Nat.reduceAdd, Bool.not_true, Bool.not_false, Option.map_some, Option.map_none, isi_ob, fld_top, fld_bottom, isi_int, isi_int_b, Bool.not_true, k1, m1, m2, h.eq, c1]
  rw [List.take_length]
  simp only [decide_true, if_true]
end Law
set_option Elab.async false
set_option linter.all false
set_option maxRecDepth 100000
set_option maxHeartbeats 4000000
set_option exponentiation.threshold 100000
namespace Law
open PySem PySem.Spec L2 Sz
def wrM : Option (Nat × Nat) → Option Nat → Option (Nat × Nat)
  | some (x, y), some w => some (w * y + x, y)
  | _, _ => none
def wrL (l : List Nat) : Option (Nat × Nat) := if 47 ∈ l then (match spR 32 l with
  | some (a, b) => wrM (ptL b) (figN a)
  | none => ptL l) else (figN l).map fun n => (n, 1)
theorem figN_lt {l : List Nat} {n : Nat} (h : figN l = some n) : n < 10 ^ 12 := by
  unfold figN at h
  split at h
  · rename_i c
    cases h
    obtain ⟨h1, h2, h3⟩ := c
    have key : ∀ (l : List Nat) (a k : Nat), l.all isFig = true → a < 10 ^ k → l.foldl (fun acc c => acc * 10 + (c - 48)) a < 10 ^ (k + l.length) := by
      intro l
      induction l with
      | nil => exact fun a k _ h => h
      | cons c l ih =>
        intro a k hc ha
        rw [List.all_cons, Bool.and_eq_true] at hc
        have hf := hc.1
        unfold isFig at hf
        rw [Bool.and_eq_true, decide_eq_true_eq, decide_eq_true_eq] at hf
        rw [List.foldl_cons, List.length_cons, show k + (l.length + 1) = (k + 1) + l.length by omega]
        refine ih _ (k + 1) hc.2 ?_
        rw [Nat.pow_succ]
        omega
    have := key l 0 0 h3 (by decide)
    rw [Nat.zero_add] at this
    exact Nat.lt_of_lt_of_le this (Nat.pow_le_pow_right (by decide) h2)
  · cases h
theorem ptL_lt {l : List Nat} {x y : Nat} (h : ptL l = some (x, y)) : x < 10 ^ 12 ∧ y < 10 ^ 12 ∧ 0 < y := by
  unfold ptL at h
  split at h
  · rename_i a b _
    unfold ptM at h
    split at h
    · rename_i x' y' hx hy
      split at h
      · cases h
      · cases h
        exact ⟨figN_lt hx, figN_lt hy, by omega⟩
    · cases h
  · cases h
theorem wrM_some {p : Option (Nat × Nat)} {w : Option Nat} {x y : Nat} (h : wrM p w = some (x, y)) : ∃ x0 w0, p = some (x0, y) ∧ w = some w0 ∧ x = w0 * y + x0 := by
  cases p with
  | none => cases h
  | some p =>
    obtain ⟨a, b⟩ := p
    cases w with
    | none => cases h
    | some w =>
      have h : some (w * b + a, b) = some (x, y) := h
      cases h
      exact ⟨a, w, rfl, rfl, rfl⟩
theorem wrL_lt {l : List Nat} {x y : Nat} (h : wrL l = some (x, y)) : x < 10 ^ 25 ∧ y < 10 ^ 12 ∧ 0 < y := by
  unfold wrL at h
  split at h
  · split at h
    · obtain ⟨x0, w, hp, hw, rfl⟩ := wrM_some h
      obtain ⟨a1, a2, a3⟩ := ptL_lt hp
      have a4 := figN_lt hw
      refine ⟨?_, a2, a3⟩
      have : w * y ≤ 10 ^ 12 * 10 ^ 12 := Nat.mul_le_mul (by omega) (by omega)
      have e : (10 : Nat) ^ 12 * 10 ^ 12 + 10 ^ 12 ≤ 10 ^ 25 := by decide
      omega
    · obtain ⟨a1, a2, a3⟩ := ptL_lt h
      exact ⟨Nat.lt_of_lt_of_le a1 (by decide), a2, a3⟩
  · obtain ⟨n, hn, e⟩ := Option.map_eq_some_iff.mp h
    cases e
    have := figN_lt hn
    exact ⟨Nat.lt_of_lt_of_le this (by decide), by decide, by decide⟩
theorem nat_bd {x n : Nat} (h : x < 2 ^ n) : Bd n (x : Int) := by
  show (x : Int).natAbs < 2 ^ n
  rw [Int.natAbs_natCast]
  exact h
theorem written_call {l : List Nat} {μ : Sto} (hl : l.length ≤ 16000000) : callF fi_written_in 1 [] [.val (.str (sT l))] [] μ = some (.ok (.val (oP (wrL l))), μ) := by
  rw [cl_written_in_1, sem_written_in]
  unfold c_written_in
  rw [slash, nosign, blank]
  have ni := notin_sT (l := l) (c := 47)
  unfold wrL
  by_cases h47 : 47 ∈ l
  · rw [if_pos h47]
    rw [decide_eq_true h47] at ni
    have dp := dRPart_one (c := 32) hl
    cases e : spR 32 l with
    | none =>
      rw [e] at dp
      have f1 := part_in_call (μ := μ) hl
      have q : dEq (.str (sT [])) (.str (sT [])) = some (.val (.bl true)) := by rw [eq_sT]; rfl
      cases hp : ptL l with
      | none =>
        rw [hp] at f1
        have i1 : dIs (oP none) .non = some (.val (.bl true)) := rfl
        simp only [ev, List.getElem?_cons_zero, List.getElem?_cons_succ, List.set_cons_zero, List.set_cons_succ, decide_eq_true_eq, Bool.not_eq_true', decide_eq_false_iff_not, Nat.reduceAdd, Bool.not_true, Bool.not_false, Option.map_some, Option.map_none, ni, dp, f1, q, i1, List.take_length]
        rfl
      | some p =>
        obtain ⟨x, y⟩ := p
        rw [hp] at f1
        have f1 : callF fi_part_in 1 [] [.val (.str (sT l))] [] μ = some (.ok (.val (.tup [.int (x : Int), .int (y : Int)])), μ) := f1
        have i1 : dIs (.tup [.int (x : Int), .int (y : Int)]) .non = some (.val (.bl false)) := rfl
        have i2 : dIs (.int 0) .non = some (.val (.bl false)) := rfl
        have m : dMul (.int 0) (.int (y : Int)) = some (.val (.int (0 * (y : Int)))) := mul_ii (mulOk_left (by unfold Bd; decide))
        simp only [ev, List.getElem?_cons_zero, List.getElem?_cons_succ, List.set_cons_zero, List.set_cons_succ, decide_eq_true_eq, Bool.not_eq_true', decide_eq_false_iff_not, Nat.reduceAdd, Bool.not_true, Bool.not_false, Option.map_some, Option.map_none, ni, dp, f1, q, i1, i2, m, Int.zero_mul, Int.zero_add, List.take_length]
        rfl
    | some p =>
      obtain ⟨a, b⟩ := p
      rw [e] at dp
      obtain ⟨e1, e2⟩ := spR_some e
      have la : a.length ≤ 16000000 := by rw [e1, List.length_append] at hl; omega
      have lb : b.length ≤ 16000000 := by rw [e1, List.length_append, List.length_cons] at hl; omega
      have f1 := part_in_call (μ := μ) lb
      have f2 := figures_call (μ := μ) la
      have q : dEq (.str (sT [32])) (.str (sT [])) = some (.val (.bl false)) := by rw [eq_sT]; rfl
      show _ = some (Except.ok (S.val (oP (wrM (ptL b) (figN a)))), μ)
      cases hp : ptL b with
      | none =>
        rw [hp] at f1
        have i1 : dIs (oP none) .non = some (.val (.bl true)) := rfl
        simp only [ev, List.getElem?_cons_zero, List.getElem?_cons_succ, List.set_cons_zero, List.set_cons_succ, decide_eq_true_eq, Bool.not_eq_true', decide_eq_false_iff_not, Nat.reduceAdd, Bool.not_true, Bool.not_false, Option.map_some, Option.map_none, ni, dp, f1, f2, q, i1, List.take_length]
        rfl
      | some p =>
        obtain ⟨x, y⟩ := p
        rw [hp] at f1
        have f1 : callF fi_part_in 1 [] [.val (.str (sT b))] [] μ = some (.ok (.val (.tup [.int (x : Int), .int (y : Int)])), μ) := f1
        have i1 : dIs (.tup [.int (x : Int), .int (y : Int)]) .non = some (.val (.bl false)) := rfl
        cases hw : figN a with
        | none =>
          rw [hw] at f2
          have i2 : dIs (oN none) .non = some (.val (.bl true)) := rfl
          simp only [ev, List.getElem?_cons_zero, List.getElem?_cons_succ, List.set_cons_zero, List.set_cons_succ, decide_eq_true_eq, Bool.not_eq_true', decide_eq_false_iff_not, Nat.reduceAdd, Bool.not_true, Bool.not_false, Option.map_some, Option.map_none, ni, dp, f1, f2, q, i1, i2, List.take_length]
          rfl
        | some w =>
          rw [hw] at f2
          have f2 : callF fi_figures_in 1 [] [.val (.str (sT a))] [] μ = some (.ok (.val (.int (w : Int))), μ) := f2
          have i2 : dIs (.int (w : Int)) .non = some (.val (.bl false)) := rfl
          have bw : Bd 40 (w : Int) := nat_bd (Nat.lt_of_lt_of_le (figN_lt hw) (by decide))
          have by_ : Bd 40 (y : Int) := nat_bd (Nat.lt_of_lt_of_le (ptL_lt hp).2.1 (by decide))
          have m := mul_bd 40 40 bw by_
          simp only [ev, List.getElem?_cons_zero, List.getElem?_cons_succ, List.set_cons_zero, List.set_cons_succ, decide_eq_true_eq, Bool.not_eq_true', decide_eq_false_iff_not, Nat.reduceAdd, Bool.not_true, Bool.not_false, Option.map_some, Option.map_none, ni, dp, f1, f2, q, i1, i2, m, List.take_length]
          show some (Except.ok (S.val (.tup [.int ((w : Int) * (y : Int) + (x : Int)), .int (y : Int)])), μ) = some (Except.ok (S.val (.tup [.int ((w * y + x : Nat) : Int), .int (y : Int)])), μ)
          rw [Int.natCast_add, Int.natCast_mul]
  · rw [if_neg h47]
    rw [decide_eq_false h47] at ni
    have f1 := figures_call (μ := μ) hl
    cases hn : figN l with
    | none =>
      rw [hn] at f1
      have i1 : dIs (oN none) .non = some (.val (.bl true)) := rfl
      simp only [ev, List.getElem?_cons_zero, List.getElem?_cons_succ, List.set_cons_zero, List.set_cons_succ, decide_eq_true_eq, Bool.not_eq_true', decide_eq_false_iff_not, Nat.reduceAdd, Bool.not_true, Bool.not_false, Option.map_some, Option.map_none, ni, f1, i1, List.take_length]
      rfl
    | some n =>
      rw [hn] at f1
      have f1 : callF fi_figures_in 1 [] [.val (.str (sT l))] [] μ = some (.ok (.val (.int (n : Int))), μ) := f1
      have i1 : dIs (.int (n : Int)) .non = some (.val (.bl false)) := rfl
      simp only [ev, List.getElem?_cons_zero, List.getElem?_cons_succ, List.set_cons_zero, List.set_cons_succ, decide_eq_true_eq, Bool.not_eq_true', decide_eq_false_iff_not, Nat.reduceAdd, Bool.not_true, Bool.not_false, Option.map_some, Option.map_none, ni, f1, i1, List.take_length]
      rfl
def sgL (q : Rat) : List Nat := if q.num < 0 then [45] else []
def bdL (q : Rat) : List Nat := if rQ q = 0 then TL.numL (wQ q).toNat else if wQ q = 0 then TL.numL (rQ q).toNat ++ 47 :: TL.numL q.den else TL.numL (wQ q).toNat ++ 32 :: (TL.numL (rQ q).toNat ++ 47 :: TL.numL q.den)
def mL (q : Rat) : List Nat := sgL q ++ bdL q
theorem tI_nat {i : Int} (h : 0 ≤ i) : tI i = sT (TL.numL i.toNat) := by
  have e := SX.num_S i.toNat
  rw [Int.toNat_of_nonneg h] at e
  exact e
theorem w_nonneg (q : Rat) : 0 ≤ wQ q := by
  show 0 ≤ (q.num.natAbs : Int).fdiv (q.den : Int)
  rw [Int.fdiv_eq_ediv_of_nonneg _ (by omega)]
  exact Int.ediv_nonneg (by omega) (by omega)
theorem r_nonneg (q : Rat) : 0 ≤ rQ q := (fmod_range (i := (q.num.natAbs : Int)) (den_pos' q)).1
theorem mT_mL {q : Rat} : mT q = sT (mL q) := by
  unfold mT mL
  have e1 : sgQ q = sT (sgL q) := by
    unfold sgQ sgL
    split
    · exact minus
    · rfl
  have e2 : bodyQ q = sT (bdL q) := by
    unfold bodyQ bdL
    rw [tI_nat (w_nonneg q), tI_nat (r_nonneg q), tI_nat (show (0 : Int) ≤ (q.den : Int) by omega), slash, blank]
    rw [Int.toNat_natCast]
    split
    · rfl
    · split
      · rw [SX.S_cat, SX.S_cat, List.append_assoc]
        rfl
      · rw [SX.S_cat, SX.S_cat, SX.S_cat, SX.S_cat, List.append_assoc, List.append_assoc]
        rfl
  rw [e1, e2, SX.S_cat]
/-- what measure_in tells -/
def msK (l : List Nat) (z : Int) (y : Nat) : Option Rat := if mL (Rat.divInt z (y : Int)) = l then some (Rat.divInt z (y : Int)) else none
def msN (l : List Nat) (f : Nat → Int) : Option (Nat × Nat) → Option Rat
  | some (x, y) => msK l (f x) y
  | none => none
def msL (l : List Nat) : Option Rat := if l.take 1 = [45] then msN l (fun x => 0 - (x : Int)) (wrL (l.drop 1)) else msN l (fun x => (x : Int)) (wrL l)
def oM : Option Rat → D
  | none => .non
  | some q => mQ q
theorem str_mQ {q : Rat} (h : BQ 1300 q) : bStrO sp_str_Measure [mQ q] = some (.val (.str (sT (mL q)))) := by
  rw [← mT_mL]
  exact str_obj (fi := fi_Measure___str__) rfl (mea_strx h)
theorem msN_bq {l b : List Nat} {f : Nat → Int} {q : Rat} (hf : ∀ x, (f x).natAbs = x) (h : msN l f (wrL b) = some q) : BQ 90 q ∧ mL q = l := by
  cases hw : wrL b with
  | none =>
    rw [hw] at h
    cases h
  | some p =>
    obtain ⟨x, y⟩ := p
    rw [hw] at h
    have h : msK l (f x) y = some q := h
    unfold msK at h
    split at h
    · rename_i e
      cases h
      obtain ⟨h1, h2, h3⟩ := wrL_lt hw
      refine ⟨(low_terms (n := 90) (by omega) ?_ (nat_bd (Nat.lt_of_lt_of_le h2 (by decide)))).2.2, e⟩
      show (f x).natAbs < 2 ^ 90
      rw [hf]
      exact Nat.lt_of_lt_of_le h1 (by decide)
    · cases h
theorem ms_bq {l : List Nat} {q : Rat} (h : msL l = some q) : BQ 90 q ∧ mL q = l := by
  unfold msL at h
  split at h
  · exact msN_bq (fun x => by omega) h
  · exact msN_bq (fun x => by omega) h
theorem measure_in_call {l : List Nat} {μ : Sto} (hl : l.length ≤ 16000000) : callF fi_measure_in 1 [] [.val (.str (sT l))] [] μ = some (.ok (.val (oM (msL l))), μ) := by
  rw [cl_measure_in_1, sem_measure_in]
  unfold c_measure_in
  rw [minus]
  have s1 := sl_to1 (l := l) (k := 1) hl
  have s1 : dSl (.str (sT l)) none (some 1) = some (.val (.str (sT (l.take 1)))) := s1
  have s2 := sl_from1 (l := l) (k := 1) hl
  have s2 : dSl (.str (sT l)) (some 1) none = some (.val (.str (sT (l.drop 1)))) := s2
  have q1 : dEq (.str (sT (l.take 1))) (.str (sT [45])) = some (.val (.bl (decide (l.take 1 = [45])))) := eq_sT
  unfold msL
  have key : ∀ (b : List Nat) (x y : Nat), wrL b = some (x, y) → ∀ z : Int, (z = (x : Int) ∨ z = 0 - (x : Int)) → (∀ ν : Sto, callM mk_Measure 2 [] [.val (.int z), .val (.int (y : Int))] [] ν = some (.ok (.val (mQ (Rat.divInt z (y : Int)))), ν)) ∧ BQ 90 (Rat.divInt z (y : Int)) := by
    intro b x y hw z hz
    obtain ⟨h1, h2, h3⟩ := wrL_lt hw
    refine make_q 90 (by omega) ?_ (nat_bd (Nat.lt_of_lt_of_le h2 (by decide))) (by decide)
    show z.natAbs < 2 ^ 90
    have : (10 : Nat) ^ 25 < 2 ^ 90 := by decide
    rcases hz with rfl | rfl <;> omega
  have fin : ∀ (z : Int) (y : Nat) (q : Rat), q = Rat.divInt z (y : Int) → BQ 90 q → dEq (.str (sT (mL q))) (.str (sT l)) = some (.val (.bl (decide (mL q = l)))) := fun z y q _ _ => eq_sT
  by_cases hb : l.take 1 = [45]
  · rw [decide_eq_true hb] at q1
    rw [if_pos hb]
    have w := written_call (l := l.drop 1) (μ := μ) (by rw [List.length_drop]; omega)
    cases hw : wrL (l.drop 1) with
    | none =>
      rw [hw] at w
      have i1 : dIs (oP none) .non = some (.val (.bl true)) := rfl
      simp only [ev, List.getElem?_cons_zero, List.getElem?_cons_succ, List.set_cons_zero, List.set_cons_succ, decide_eq_true_eq, Bool.not_eq_true', decide_eq_false_iff_not, Nat.reduceAdd, Bool.not_true, Bool.not_false, Option.map_some, Option.map_none, s1, q1, s2, w, i1, List.take_length]
      rfl
    | some p =>
      obtain ⟨x, y⟩ := p
      rw [hw] at w
      have w : callF fi_written_in 1 [] [.val (.str (sT (l.drop 1)))] [] μ = some (.ok (.val (.tup [.int (x : Int), .int (y : Int)])), μ) := w
      have i1 : dIs (.tup [.int (x : Int), .int (y : Int)]) .non = some (.val (.bl false)) := rfl
      obtain ⟨m, bq⟩ := key _ x y hw (0 - (x : Int)) (.inr rfl)
      have st := str_mQ (bq.mono (show 90 ≤ 1300 by decide))
      have qe := fin _ y _ rfl bq
      show _ = some (Except.ok (S.val (oM (msK l (0 - (x : Int)) y))), μ)
      unfold msK
      generalize Rat.divInt (0 - (x : Int)) (y : Int) = q at *
      by_cases he : mL q = l
      · rw [decide_eq_true he] at qe
        rw [if_pos he]
        simp only [ev, List.getElem?_cons_zero, List.getElem?_cons_succ, List.set_cons_zero, List.set_cons_succ, decide_eq_true_eq, Bool.not_eq_true', decide_eq_false_iff_not, Nat.reduceAdd, Bool.not_true, Bool.not_false, Option.map_some, Option.map_none, s1, q1, s2, w, i1, m, st, qe, List.take_length]
        rfl
      · rw [decide_eq_false he] at qe
        rw [if_neg he]
        simp only [ev, List.getElem?_cons_zero, List.getElem?_cons_succ, List.set_cons_zero, List.set_cons_succ, decide_eq_true_eq, Bool.not_eq_true', decide_eq_false_iff_not, Nat.reduceAdd, Bool.not_true, Bool.not_false, Option.map_some, Option.map_none, s1, q1, s2, w, i1, m, st, qe, List.take_length]
        rfl
  · rw [decide_eq_false hb] at q1
    rw [if_neg hb]
    have w := written_call (l := l) (μ := μ) hl
    cases hw : wrL l with
    | none =>
      rw [hw] at w
      have i1 : dIs (oP none) .non = some (.val (.bl true)) := rfl
      simp only [ev, List.getElem?_cons_zero, List.getElem?_cons_succ, List.set_cons_zero, List.set_cons_succ, decide_eq_true_eq, Bool.not_eq_true', decide_eq_false_iff_not, Nat.reduceAdd, Bool.not_true, Bool.not_false, Option.map_some, Option.map_none, s1, q1, s2, w, i1, List.take_length]
      rfl
    | some p =>
      obtain ⟨x, y⟩ := p
      rw [hw] at w
      have w : callF fi_written_in 1 [] [.val (.str (sT l))] [] μ = some (.ok (.val (.tup [.int (x : Int), .int (y : Int)])), μ) := w
      have i1 : dIs (.tup [.int (x : Int), .int (y : Int)]) .non = some (.val (.bl false)) := rfl
      obtain ⟨m, bq⟩ := key _ x y hw (x : Int) (.inl rfl)
      have st := str_mQ (bq.mono (show 90 ≤ 1300 by decide))
      have qe := fin _ y _ rfl bq
      show _ = some (Except.ok (S.val (oM (msK l (x : Int) y))), μ)
      unfold msK
      generalize Rat.divInt (x : Int) (y : Int) = q at *
      by_cases he : mL q = l
      · rw [decide_eq_true he] at qe
        rw [if_pos he]
        simp only [ev, List.getElem?_cons_zero, List.getElem?_cons_succ, List.set_cons_zero, List.set_cons_succ, decide_eq_true_eq, Bool.not_eq_true', decide_eq_false_iff_not, Nat.reduceAdd, Bool.not_true, Bool.not_false, Option.map_some, Option.map_none, s1, q1, s2, w, i1, m, st, qe, List.take_length]
        rfl
      · rw [decide_eq_false he] at qe
        rw [if_neg he]
        simp only [ev, List.getElem?_cons_zero, List.getElem?_cons_succ, List.set_cons_zero, List.set_cons_succ, decide_eq_true_eq, Bool.not_eq_true', decide_eq_false_iff_not, Nat.reduceAdd, Bool.not_true, Bool.not_false, Option.map_some, Option.map_none, s1, q1, s2, w, i1, m, st, qe, List.take_length]
        rfl
theorem num_fig {n : Nat} : (TL.numL n).all isFig = true := by
  rw [List.all_eq_true]
  intro c hc
  have := TL.numL_digits n c hc
  unfold isFig
  rw [Bool.and_eq_true, decide_eq_true_eq, decide_eq_true_eq]
  exact this
theorem figN_num {n : Nat} (h : n < 10 ^ 12) : figN (TL.numL n) = some n := by
  unfold figN
  have h1 : 1 ≤ (TL.numL n).length := List.length_pos_iff.mpr (TL.numL_ne n)
  rw [if_pos ⟨h1, TL.numL_len (by decide) h, num_fig⟩]
  exact congrArg some (TL.numL_val n)
theorem num_free47 {n : Nat} : 47 ∉ TL.numL n := TL.numL_free (by decide)
theorem num_free32 {n : Nat} : 32 ∉ TL.numL n := TL.numL_free (by decide)
theorem num_free45 {n : Nat} : 45 ∉ TL.numL n := TL.numL_free (by decide)
theorem ptL_num {x y : Nat} (hx : x < 10 ^ 12) (hy : y < 10 ^ 12) (h0 : 0 < y) : ptL (TL.numL x ++ 47 :: TL.numL y) = some (x, y) := by
  unfold ptL
  rw [spF_hit num_free47]
  show ptM (figN (TL.numL x)) (figN (TL.numL y)) = _
  rw [figN_num hx, figN_num hy]
  exact if_neg (by omega)
theorem head_num {n : Nat} {l : List Nat} : ¬ (TL.numL n ++ l).take 1 = [45] := by
  intro h
  have h1 := TL.numL_ne n
  cases e : TL.numL n with
  | nil => exact h1 e
  | cons c r =>
    rw [e, List.cons_append, List.take_succ_cons, List.take_zero] at h
    injection h with h
    exact num_free45 (n := n) (by rw [e, h]; exact List.mem_cons_self)
/-- whole, rest, bottom -/
theorem q_parts (q : Rat) : (q.num.natAbs : Int) = wQ q * (q.den : Int) + rQ q ∧ rQ q < (q.den : Int) := by
  have h := Int.mul_fdiv_add_fmod (q.num.natAbs : Int) (q.den : Int)
  have r := fmod_range (i := (q.num.natAbs : Int)) (den_pos' q)
  refine ⟨?_, r.2⟩
  rw [Int.mul_comm]
  exact h.symm
theorem wrL_bd {q : Rat} (hw : (wQ q).toNat < 10 ^ 12) (hr : (rQ q).toNat < 10 ^ 12) (hd : q.den < 10 ^ 12) : ∃ x y : Nat, wrL (bdL q) = some (x, y) ∧ 0 < y ∧ Rat.divInt (x : Int) (y : Int) = Rat.divInt (q.num.natAbs : Int) (q.den : Int) := by
  obtain ⟨e1, e2⟩ := q_parts q
  have w0 := w_nonneg q
  have r0 := r_nonneg q
  have d0 := den_pos' q
  unfold bdL
  by_cases c1 : rQ q = 0
  · rw [if_pos c1]
    unfold wrL
    rw [if_neg num_free47, figN_num hw]
    refine ⟨_, 1, rfl, by decide, ?_⟩
    rw [c1, Int.add_zero] at e1
    rw [e1, Int.toNat_of_nonneg w0]
    rw [Rat.divInt_eq_divInt_iff (by decide) (by omega)]
    rw [show ((1 : Nat) : Int) = 1 from rfl, Int.mul_one]
  · rw [if_neg c1]
    by_cases c2 : wQ q = 0
    · rw [if_pos c2]
      unfold wrL
      have n32 : 32 ∉ TL.numL (rQ q).toNat ++ 47 :: TL.numL q.den := by
        simp only [List.mem_append, List.mem_cons, not_or]
        exact ⟨num_free32, by decide, num_free32⟩
      rw [if_pos (by simp), spR_none.mpr n32]
      refine ⟨(rQ q).toNat, q.den, ptL_num hr hd (by omega), by omega, ?_⟩
      rw [c2, Int.zero_mul, Int.zero_add] at e1
      rw [e1, Int.toNat_of_nonneg r0]
    · rw [if_neg c2]
      unfold wrL
      have n32 : 32 ∉ TL.numL (rQ q).toNat ++ 47 :: TL.numL q.den := by
        simp only [List.mem_append, List.mem_cons, not_or]
        exact ⟨num_free32, by decide, num_free32⟩
      rw [if_pos (by simp), spR_hit n32]
      refine ⟨(wQ q).toNat * q.den + (rQ q).toNat, q.den, ?_, by omega, ?_⟩
      · show wrM (ptL (TL.numL (rQ q).toNat ++ 47 :: TL.numL q.den)) (figN (TL.numL (wQ q).toNat)) = _
        rw [ptL_num hr hd (by omega), figN_num hw]
        rfl
      · rw [Int.natCast_add, Int.natCast_mul, Int.toNat_of_nonneg w0, Int.toNat_of_nonneg r0, e1]
theorem ms_text {q : Rat} (hw : (wQ q).toNat < 10 ^ 12) (hr : (rQ q).toNat < 10 ^ 12) (hd : q.den < 10 ^ 12) : msL (mL q) = some q := by
  obtain ⟨x, y, e, y0, ed⟩ := wrL_bd hw hr hd
  have hq : Rat.divInt q.num (q.den : Int) = q := Rat.num_divInt_den q
  have key : ∀ z : Int, Rat.divInt z (y : Int) = q → msK (mL q) z y = some q := fun z h => by
    unfold msK
    rw [h]
    exact if_pos rfl
  unfold msL
  by_cases hn : q.num < 0
  · have em : mL q = 45 :: bdL q := by
      unfold mL sgL
      rw [if_pos hn]
      rfl
    have t1 : (mL q).take 1 = [45] := by rw [em]; rfl
    have t2 : (mL q).drop 1 = bdL q := by rw [em]; rfl
    rw [if_pos t1, t2, e]
    refine key _ ?_
    have e1 : Rat.divInt (0 - (x : Int)) (y : Int) = - Rat.divInt (x : Int) (y : Int) := by
      rw [Int.zero_sub, Rat.neg_divInt]
    have e2 : -(q.num.natAbs : Int) = q.num := by omega
    rw [e1, ed, Rat.neg_divInt, e2, hq]
  · have em : mL q = bdL q := by
      unfold mL sgL
      rw [if_neg hn]
      rfl
    have t1 : ¬ (mL q).take 1 = [45] := by
      rw [em]
      unfold bdL
      split
      · have := head_num (n := (wQ q).toNat) (l := [])
        rw [List.append_nil] at this
        exact this
      · split
        · exact head_num
        · exact head_num
    rw [if_neg t1, em, e, ← em]
    refine key _ ?_
    have e2 : (q.num.natAbs : Int) = q.num := by omega
    show Rat.divInt (x : Int) (y : Int) = q
    rw [ed, e2, hq]
end Law
set_option Elab.async false
set_option linter.all false
set_option maxRecDepth 100000
set_option maxHeartbeats 4000000
set_option exponentiation.threshold 100000
namespace Law
open PySem PySem.Spec L2 Sz
theorem py_nilL {x : D} {xs : List D} : pyEq (.lst (x :: xs)) (.lst []) = none ∨ pyEq (.lst (x :: xs)) (.lst []) = some false := by
  cases h : pyEq (.lst (x :: xs)) (.lst []) with
  | none => exact .inl rfl
  | some b =>
    refine .inr ?_
    unfold pyEq toPy at h
    cases hp : toPys (x :: xs) with
    | none => rw [hp] at h; cases h
    | some ps =>
      have hl : ∃ q qs, ps = q :: qs := by
        unfold toPys at hp
        cases q1 : toPy x with
        | none => rw [q1] at hp; simp at hp
        | some q =>
          cases q2 : toPys xs with
          | none => rw [q1, q2] at hp; simp at hp
          | some qs =>
            rw [q1, q2] at hp
            exact ⟨q, qs, (Option.some.inj hp).symm⟩
      obtain ⟨q, qs, rfl⟩ := hl
      rw [hp] at h
      have h : (if SeqAt.shaped (.list (q :: qs)) && SeqAt.shaped (.list []) then some (PyData.eqv (.list (q :: qs)) (.list [])) else none) = some b := h
      split at h
      · have e : PyData.eqv (.list (q :: qs)) (.list []) = false := by first | rfl | simp [PyData.eqv] | simp [PyData.eqv, PyData.eqvAll]
        rw [e] at h
        rw [← Option.some.inj h]
      · cases h
theorem nil_ne {xs : List D} : dNe (.lst xs) (.lst []) = some (.val (.bl (!xs.isEmpty))) := by
  show (match pyEq (.lst xs) (.lst []) with
    | some b => some (S.val (.bl (!b)))
    | none => (eqEmp (.lst xs) (.lst [])).map fun b => S.val (.bl (!b))) = _
  cases xs with
  | nil => rfl
  | cons x xs =>
    rcases py_nilL (x := x) (xs := xs) with h | h
    · rw [h]; rfl
    · rw [h]; rfl
theorem valF_snoc (l : List Nat) (c : Nat) : valF (l ++ [c]) = valF l * 10 + (c - 48) := by
  show (l ++ [c]).foldl _ 0 = _
  rw [List.foldl_append]
  rfl
theorem fig_bd {c : Nat} (h : isFig c = true) : 48 ≤ c ∧ c ≤ 57 := by
  unfold isFig at h
  rw [Bool.and_eq_true, decide_eq_true_eq, decide_eq_true_eq] at h
  exact h
theorem canon : ∀ (n : Nat) (l : List Nat), l.length = n → l ≠ [] → l.all isFig = true → (l = [48] ∨ l.head? ≠ some 48) → TL.numL (valF l) = l := by
  intro n
  induction n with
  | zero => exact fun l h1 h2 _ _ => absurd (List.length_eq_zero_iff.mp h1) h2
  | succ n ih =>
    intro l h1 h2 h3 h4
    rcases List.eq_nil_or_concat l with e | ⟨a, c, e⟩
    · exact absurd e h2
    · rw [List.concat_eq_append] at e
      subst e
      rw [List.all_append, Bool.and_eq_true] at h3
      have hc := fig_bd (c := c) (by simpa using h3.2)
      rw [List.length_append, List.length_singleton] at h1
      rw [valF_snoc]
      cases a with
      | nil =>
        have e0 : valF ([] : List Nat) * 10 + (c - 48) = c - 48 := by
          show 0 * 10 + (c - 48) = _
          omega
        rw [e0, TL.numL_lt (by omega), List.nil_append, show 48 + (c - 48) = c by omega]
      | cons d r =>
        have hd : d ≠ 48 := by
          rcases h4 with e | e
          · have := congrArg List.length e
            simp at this
          · intro q
            exact e (by rw [q]; rfl)
        have e1 := ih (d :: r) (by omega) (by simp) h3.1 (.inr (by simpa using hd))
        have pos : 1 ≤ valF (d :: r) := by
          rcases Nat.eq_zero_or_pos (valF (d :: r)) with z | z
          · rw [z, TL.numL_lt (by decide)] at e1
            injection e1 with e2
            exact absurd e2.symm hd
          · exact z
        rw [TL.numL_step (by omega), show (valF (d :: r) * 10 + (c - 48)) / 10 = valF (d :: r) by omega, show (valF (d :: r) * 10 + (c - 48)) % 10 = c - 48 by omega, e1, show 48 + (c - 48) = c by omega]
theorem num_hd : ∀ (n : Nat), TL.numL n = [48] ∨ (TL.numL n).head? ≠ some 48 := by
  intro n
  induction n using Nat.strongRecOn with
  | _ n ih =>
    by_cases h : n < 10
    · rw [TL.numL_lt h]
      by_cases h0 : n = 0
      · subst h0
        exact .inl rfl
      · refine .inr ?_
        show some (48 + n) ≠ some 48
        intro q
        injection q with q
        omega
    · rw [TL.numL_step (by omega)]
      have i := ih (n / 10) (by omega)
      cases e : TL.numL (n / 10) with
      | nil => exact absurd e (TL.numL_ne _)
      | cons d r =>
        rw [e] at i
        refine .inr ?_
        show some d ≠ some 48
        rcases i with q | q
        · have e0 : n / 10 = 0 := TL.numL_inj (by rw [e, q, TL.numL_lt (by decide)])
          omega
        · exact q
def lfN (l : List Nat) : Option Nat := if 1 ≤ l.length ∧ l.length ≤ 12 ∧ l.all isFig = true then (if l = [48] ∨ l.head? ≠ some 48 then some (valF l) else none) else none
theorem lfN_num {n : Nat} (h : n < 10 ^ 12) : lfN (TL.numL n) = some n := by
  unfold lfN
  rw [if_pos ⟨List.length_pos_iff.mpr (TL.numL_ne n), TL.numL_len (by decide) h, num_fig⟩, if_pos (num_hd n)]
  exact congrArg some (TL.numL_val n)
theorem lfN_some {l : List Nat} {n : Nat} (h : lfN l = some n) : l = TL.numL n ∧ n < 10 ^ 12 := by
  unfold lfN at h
  split at h
  · rename_i c
    split at h
    · rename_i c2
      cases h
      refine ⟨(canon _ l rfl (by intro e; subst e; simp at c) c.2.2 c2).symm, ?_⟩
      exact figN_lt (if_pos c)
    · cases h
  · cases h
theorem not_figs {c : Nat} : dNotIn (.str ⟨#[c]⟩) (.str "0123456789") = some (.val (.bl (!isFig c))) := by
  rw [figs_text, ← mem_figs]
  exact notin_sT
theorem nought_is : ("0" : Str) = sT [48] := by decide +kernel
theorem ix_sT {l : List Nat} {c : Nat} {r : List Nat} (h : l = c :: r) (hl : l.length ≤ 16000000) : dIx (.str (sT l)) (.int 0) = some (.val (.str (sT [c]))) := by
  show (if (sT l).length ≤ sizeLine then (atI (sT l).cps.toList 0).map fun c => S.val (.str ⟨#[c]⟩) else none) = _
  rw [if_pos (by rw [sT_len, sizeLine_eq]; omega), sT_tl, h, atI0]
  rfl
theorem lfigs_call {l : List Nat} {μ : Sto} (hl : l.length ≤ 16000000) : callF fi_l_figures 1 [] [.val (.str (sT l))] [] μ = some (.ok (.val (oN (lfN l))), μ) := by
  rw [cl_l_figures_1, sem_l_figures]
  unfold c_l_figures
  have len := len_sT hl
  have fl0 : ∀ ν : Sto, finL [] ν = some (.ok (.fr []), ν) := fun _ => rfl
  by_cases c1 : (1 : Int) ≤ (l.length : Int)
  · by_cases c2 : (l.length : Int) ≤ 12
    · have hc : mComp (iVal (mVar 0)) (gNm 1 false) (tBl (mOp2 dNotIn (mVar 1) (mK (.str "0123456789")))) (mVar 1) [1] [some (.val (.str (sT l))), none] μ = some (.ok (.fr ((l.filter fun c => !isFig c).map fun c => .str ⟨#[c]⟩)), μ) := by
        refine comp_filterL (l := l) (fun c => .str ⟨#[c]⟩) (fun c => !isFig c) (fun c => .str ⟨#[c]⟩) (items_sT (m := mVar 0) (μ := μ) (l := l) (by simp only [ev, List.getElem?_cons_zero, List.getElem?_cons_succ, List.set_cons_zero, List.set_cons_succ, decide_eq_true_eq, Bool.not_eq_true', decide_eq_false_iff_not, Nat.reduceAdd, Bool.not_true, Bool.not_false, Option.map_some, Option.map_none])) (by omega) fun c hc ν => ⟨_, rfl, ?_, fun _ => ?_⟩
        · simp only [ev, List.getElem?_cons_zero, List.getElem?_cons_succ, List.set_cons_zero, List.set_cons_succ, decide_eq_true_eq, Bool.not_eq_true', decide_eq_false_iff_not, Nat.reduceAdd, Bool.not_true, Bool.not_false, Option.map_some, Option.map_none, wipeE, not_figs]
        · simp only [ev, List.getElem?_cons_zero, List.getElem?_cons_succ, List.set_cons_zero, List.set_cons_succ, decide_eq_true_eq, Bool.not_eq_true', decide_eq_false_iff_not, Nat.reduceAdd, Bool.not_true, Bool.not_false, Option.map_some, Option.map_none, wipeE]
      have ne := nil_ne (xs := (l.filter fun c => !isFig c).map fun c => .str ⟨#[c]⟩)
      have em : ((l.filter fun c => !isFig c).map fun c => D.str ⟨#[c]⟩).isEmpty = l.all isFig := by
        rw [List.isEmpty_map, Bool.eq_iff_iff, List.isEmpty_iff, List.filter_eq_nil_iff, List.all_eq_true]
        constructor
        · intro h x hx
          have := h x hx
          simpa using this
        · intro h x hx
          rw [h x hx]
          simp
      rw [em] at ne
      have c1' := eq_true c1
      have c2' := eq_true c2
      by_cases c3 : l.all isFig = true
      · rw [c3] at ne
        have ei := bInt_figs c3 (by intro e; subst e; simp at c1) (by omega)
        cases hl0 : l with
        | nil => subst hl0; simp at c1
        | cons c r =>
          rw [← hl0]
          have ix := ix_sT hl0 hl
          have q1 : dEq (.str (sT l)) (.str "0") = some (.val (.bl (decide (l = [48])))) := by rw [nought_is]; exact eq_sT
          have q2 : dNe (.str (sT [c])) (.str "0") = some (.val (.bl (!decide ([c] = [48])))) := by rw [nought_is]; exact ne_sT
          have e1 : lfN l = if l = [48] ∨ l.head? ≠ some 48 then some (valF l) else none := if_pos ⟨by omega, by omega, c3⟩
          rw [e1]
          by_cases k1 : l = [48]
          · rw [decide_eq_true k1] at q1
            rw [if_pos (.inl k1)]
            simp only [ev, List.getElem?_cons_zero, List.getElem?_cons_succ, List.set_cons_zero, List.set_cons_succ, decide_eq_true_eq, Bool.not_eq_true', decide_eq_false_iff_not, Nat.reduceAdd, Bool.not_true, Bool.not_false, Option.map_some, Option.map_none, len, c1', c2', decide_true, hc, fl0, ne, q1, ei, List.take_length]
            rfl
          · rw [decide_eq_false k1] at q1
            by_cases k2 : c = 48
            · have k3 : l.head? = some 48 := by rw [hl0, k2]; rfl
              rw [if_neg (by rintro (q | q); exact k1 q; exact q k3)]
              rw [decide_eq_true (by rw [k2])] at q2
              simp only [ev, List.getElem?_cons_zero, List.getElem?_cons_succ, List.set_cons_zero, List.set_cons_succ, decide_eq_true_eq, Bool.not_eq_true', decide_eq_false_iff_not, Nat.reduceAdd, Bool.not_true, Bool.not_false, Option.map_some, Option.map_none, len, c1', c2', decide_true, hc, fl0, ne, q1, ix, q2, List.take_length]
              rfl
            · have k3 : l.head? ≠ some 48 := by rw [hl0]; intro q; exact k2 (Option.some.inj q)
              rw [if_pos (.inr k3)]
              rw [decide_eq_false (by intro q; injection q; exact absurd (by assumption) k2)] at q2
              simp only [ev, List.getElem?_cons_zero, List.getElem?_cons_succ, List.set_cons_zero, List.set_cons_succ, decide_eq_true_eq, Bool.not_eq_true', decide_eq_false_iff_not, Nat.reduceAdd, Bool.not_true, Bool.not_false, Option.map_some, Option.map_none, len, c1', c2', decide_true, hc, fl0, ne, q1, ix, q2, ei, List.take_length]
              rfl
      · have c3' : l.all isFig = false := by simpa using c3
        rw [c3'] at ne
        have e : lfN l = none := if_neg fun h => c3 h.2.2
        rw [e]
        simp only [ev, List.getElem?_cons_zero, List.getElem?_cons_succ, List.set_cons_zero, List.set_cons_succ, decide_eq_true_eq, Bool.not_eq_true', decide_eq_false_iff_not, Nat.reduceAdd, Bool.not_true, Bool.not_false, Option.map_some, Option.map_none, len, c1', c2', decide_true, hc, fl0, ne, List.take_length]
        rfl
    · have e : lfN l = none := if_neg fun h => by omega
      rw [e]
      have c1' := eq_true c1
      have c2' := eq_false c2
      simp only [ev, List.getElem?_cons_zero, List.getElem?_cons_succ, List.set_cons_zero, List.set_cons_succ, decide_eq_true_eq, Bool.not_eq_true', decide_eq_false_iff_not, Nat.reduceAdd, Bool.not_true, Bool.not_false, Option.map_some, Option.map_none, len, c1', c2', decide_true, decide_false, List.take_length]
      rfl
  · have e : lfN l = none := if_neg fun h => by omega
    rw [e]
    have c1' := eq_false c1
    simp only [ev, List.getElem?_cons_zero, List.getElem?_cons_succ, List.set_cons_zero, List.set_cons_succ, decide_eq_true_eq, Bool.not_eq_true', decide_eq_false_iff_not, Nat.reduceAdd, Bool.not_true, Bool.not_false, Option.map_some, Option.map_none, len, c1', decide_false, List.take_length]
    rfl
end Law
set_option Elab.async false
set_option linter.all false
set_option maxRecDepth 100000
set_option maxHeartbeats 4000000
set_option exponentiation.threshold 100000
namespace Law
open PySem PySem.Spec L2 Sz
def sg05 (b : Bool) : Int := if b then -1 else 1
/-- a part: top, bottom, the whole ahead (none: there is none) -/
def prM (b : Bool) : Option Nat → Option Nat → Option Nat → Bool → Option (Int × Int)
  | some t, some u, some w, k => if (k = true ∧ w = 0) ∨ ¬ (0 < t ∧ t < u) ∨ Nat.gcd t u ≠ 1 then none else some (((w : Int) * (u : Int) + (t : Int)) * sg05 b, (u : Int))
  | _, _, _, _ => none
def prL (b : Bool) (p : List Nat) (w : Option Nat) (k : Bool) : Option (Int × Int) := match spF 47 p with
  | some (x, y) => prM b (lfN x) (lfN y) w k
  | none => none
def whM (b : Bool) : Option Nat → Option (Int × Int)
  | some w => if b = true ∧ w = 0 then none else some ((w : Int) * sg05 b, 1)
  | none => none
def bdR (b : Bool) (l : List Nat) : Option (Int × Int) := if 47 ∈ l then (match spR 32 l with
  | some (x, y) => prL b y (lfN x) true
  | none => prL b l (some 0) false) else whM b (lfN l)
def rdL (l : List Nat) : Option (Int × Int) := if l.take 1 = [45] then bdR true (l.drop 1) else bdR false l
def oR : Option (Int × Int) → D
  | none => .non
  | some p => .tup [.int p.1, .int p.2]
theorem sg_mul {b : Bool} {i : Int} (hi : Bd 200 i) : dMul (.int i) (.int (1 - 2 * (if b = true then 1 else 0))) = some (.val (.int (i * sg05 b))) := by
  cases b with
  | true => exact mul_bd 200 2 hi (by unfold Bd; decide)
  | false => exact mul_bd 200 2 hi (by unfold Bd; decide)
theorem lf_bd {l : List Nat} {n : Nat} (h : lfN l = some n) : Bd 40 (n : Int) := nat_bd (Nat.lt_of_lt_of_le (lfN_some h).2 (by decide))
theorem parts_call {p : List Nat} {μ : Sto} (hp : p.length ≤ 16000000) {s0 s1 s2 s3 s4 s6 s7 s8 : Option S} : ∃ x y : List Nat, x.length ≤ 16000000 ∧ y.length ≤ 16000000 ∧ (match spF 47 p with | some (x', y') => x = x' ∧ y = y' | none => y = []) ∧
    mComp (iVal (mTup [mOp2 dIx (mSm1 dPart (mVar 5) (mK (.str "/"))) (mK (.int 0)), mOp2 dIx (mSm1 dPart (mVar 5) (mK (.str "/"))) (mK (.int 2))])) (gNm 9 false) tTrue (mCallF fi_l_figures 1 [] [mVar 9] []) [9] [s0, s1, s2, s3, s4, some (.val (.str (sT p))), s6, s7, s8, none] μ = some (.ok (.fr [oN (lfN x), oN (lfN y)]), μ) := by
  have dp := dPart_one (c := 47) hp
  have key : ∀ x y : List Nat, x.length ≤ 16000000 → y.length ≤ 16000000 → ∀ z : D, dPart (.str (sT p)) (.str (sT [47])) = some (.val (.tup [.str (sT x), z, .str (sT y)])) →
      mComp (iVal (mTup [mOp2 dIx (mSm1 dPart (mVar 5) (mK (.str "/"))) (mK (.int 0)), mOp2 dIx (mSm1 dPart (mVar 5) (mK (.str "/"))) (mK (.int 2))])) (gNm 9 false) tTrue (mCallF fi_l_figures 1 [] [mVar 9] []) [9] [s0, s1, s2, s3, s4, some (.val (.str (sT p))), s6, s7, s8, none] μ = some (.ok (.fr [oN (lfN x), oN (lfN y)]), μ) := by
    intro x y hx hy z hd
    rw [slash]
    have a2 : atI [.str (sT x), z, .str (sT y)] 2 = some (.str (sT y)) := rfl
    refine comp_mapL (l := [x, y]) (fun w => .str (sT w)) (fun w => oN (lfN w)) (by simp only [ev, List.getElem?_cons_zero, List.getElem?_cons_succ, List.set_cons_zero, List.set_cons_succ, decide_eq_true_eq, Bool.not_eq_true', decide_eq_false_iff_not, Nat.reduceAdd, Bool.not_true, Bool.not_false, Option.map_some, Option.map_none, hd, a2]; rfl) (show 2 ≤ 1000 by decide) fun w hw ν => ⟨_, rfl, ?_⟩
    have hl : w.length ≤ 16000000 := by
      simp only [List.mem_cons, List.not_mem_nil, or_false] at hw
      rcases hw with rfl | rfl
      · exact hx
      · exact hy
    have e := lfigs_call (μ := ν) hl
    simp only [ev, List.getElem?_cons_zero, List.getElem?_cons_succ, List.set_cons_zero, List.set_cons_succ, decide_eq_true_eq, Bool.not_eq_true', decide_eq_false_iff_not, Nat.reduceAdd, Bool.not_true, Bool.not_false, Option.map_some, Option.map_none, wipeE, e]
  cases e : spF 47 p with
  | none =>
    rw [e] at dp
    exact ⟨p, [], hp, by decide, rfl, key _ _ hp (by decide) _ dp⟩
  | some q =>
    obtain ⟨x, y⟩ := q
    rw [e] at dp
    obtain ⟨e1, _⟩ := spF_some e
    have lx : x.length ≤ 16000000 := by rw [e1, List.length_append] at hp; omega
    have ly : y.length ≤ 16000000 := by rw [e1, List.length_append, List.length_cons] at hp; omega
    exact ⟨x, y, lx, ly, ⟨rfl, rfl⟩, key _ _ lx ly _ dp⟩
theorem lf_nil : lfN [] = none := rfl
theorem prL_at {b k : Bool} {p x y : List Nat} {w : Option Nat} (h : match spF 47 p with | some (x', y') => x = x' ∧ y = y' | none => y = []) : prL b p w k = prM b (lfN x) (lfN y) w k := by
  unfold prL
  cases e : spF 47 p with
  | none =>
    rw [e] at h
    have h : y = [] := h
    rw [h, lf_nil]
    cases lfN x <;> rfl
  | some q =>
    obtain ⟨x', y'⟩ := q
    rw [e] at h
    obtain ⟨rfl, rfl⟩ := h
    rfl
theorem common05 {a b : Nat} {μ : Sto} : callF fi_l_common 2 [] [.val (.int (a : Int)), .val (.int (b : Int))] [] μ = some (.ok (.val (.int (Nat.gcd a b : Int))), μ) := common2
end Law
set_option Elab.async false
set_option linter.all false
set_option maxRecDepth 100000
set_option maxHeartbeats 4000000
set_option exponentiation.threshold 100000
namespace Law
open PySem PySem.Spec L2 Sz
theorem fin_ex {a b : MS} {ρ : En} {μ : Sto} {ρ1 : En} {μ1 : Sto} {n : Nat} {r : Option R} (h : a ρ μ = some (.nx, ρ1, μ1)) (h2 : finF n (b ρ1 μ1) = r) : finF n (sSeq a b ρ μ) = r := by
  rw [sSeq_ap, h, seqK_nx]
  exact h2
theorem lread_call {l : List Nat} {μ : Sto} (hl : l.length ≤ 16000000) : callF fi_l_read 1 [] [.val (.str (sT l))] [] μ = some (.ok (.val (oR (rdL l))), μ) := by
  rw [cl_l_read_1, sem_l_read]
  unfold c_l_read
  rw [minus, blank, nosign]
  have s1 : dSl (.str (sT l)) none (some 1) = some (.val (.str (sT (l.take 1)))) := sl_to1 (l := l) (k := 1) hl
  have s2 : dSl (.str (sT l)) (some 1) none = some (.val (.str (sT (l.drop 1)))) := sl_from1 (l := l) (k := 1) hl
  obtain ⟨b, body, hlen, hr, h1, h2⟩ : ∃ (b : Bool) (body : List Nat), body.length ≤ 16000000 ∧ rdL l = bdR b body ∧ dEq (.str (sT (l.take 1))) (.str (sT [45])) = some (.val (.bl b)) ∧
      mIf (tBl (mVar 1)) (mSl (mVar 0) (oSome (mK (.int 1))) oNone) (mVar 0) [some (.val (.str (sT l))), some (.val (.bl b)), none, none, none, none, none, none, none, none] μ = some (.ok (.val (.str (sT body))), μ) := by
    have q1 : dEq (.str (sT (l.take 1))) (.str (sT [45])) = some (.val (.bl (decide (l.take 1 = [45])))) := eq_sT
    by_cases hb : l.take 1 = [45]
    · rw [decide_eq_true hb] at q1
      refine ⟨true, l.drop 1, by rw [List.length_drop]; omega, if_pos hb, q1, by simp only [ev, List.getElem?_cons_zero, List.getElem?_cons_succ, List.set_cons_zero, List.set_cons_succ, decide_eq_true_eq, Bool.not_eq_true', decide_eq_false_iff_not, Nat.reduceAdd, Bool.not_true, Bool.not_false, Option.map_some, Option.map_none, s2]⟩
    · rw [decide_eq_false hb] at q1
      refine ⟨false, l, hl, if_neg hb, q1, by simp only [ev, List.getElem?_cons_zero, List.getElem?_cons_succ, List.set_cons_zero, List.set_cons_succ, decide_eq_true_eq, Bool.not_eq_true', decide_eq_false_iff_not, Nat.reduceAdd, Bool.not_true, Bool.not_false, Option.map_some, Option.map_none]⟩
  obtain ⟨ah, bk, pt, k, la, lp, dp, nk, hR⟩ : ∃ (ah bk pt : List Nat) (k : Bool), ah.length ≤ 16000000 ∧ pt.length ≤ 16000000 ∧ dRPart (.str (sT body)) (.str (sT [32])) = some (.val (.tup [.str (sT ah), .str (sT bk), .str (sT pt)])) ∧
      dNe (.str (sT bk)) (.str (sT [])) = some (.val (.bl k)) ∧ bdR b body = if 47 ∈ body then prL b pt (if k = true then lfN ah else some 0) k else whM b (lfN body) := by
    have dp := dRPart_one (c := 32) hlen
    unfold bdR
    cases e : spR 32 body with
    | none =>
      rw [e] at dp
      exact ⟨[], [], body, false, by decide, hlen, dp, by rw [ne_sT]; rfl, rfl⟩
    | some q =>
      obtain ⟨x, y⟩ := q
      rw [e] at dp
      obtain ⟨e1, _⟩ := spR_some e
      exact ⟨x, [32], y, true, by rw [e1, List.length_append] at hlen; omega, by rw [e1, List.length_append, List.length_cons] at hlen; omega, dp, by rw [ne_sT]; rfl, rfl⟩
  rw [hr, hR]
  refine fin_ex (ρ1 := [some (.val (.str (sT l))), some (.val (.bl b)), none, none, none, none, none, none, none, none]) (μ1 := μ) (by simp only [ev, List.getElem?_cons_zero, List.getElem?_cons_succ, List.set_cons_zero, List.set_cons_succ, decide_eq_true_eq, Bool.not_eq_true', decide_eq_false_iff_not, Nat.reduceAdd, Bool.not_true, Bool.not_false, Option.map_some, Option.map_none, s1, h1]) ?_
  refine fin_ex (ρ1 := [some (.val (.str (sT l))), some (.val (.bl b)), some (.val (.str (sT body))), none, none, none, none, none, none, none]) (μ1 := μ) (by rw [sAsg_ap, h2]; simp only [ev, List.getElem?_cons_zero, List.getElem?_cons_succ, List.set_cons_zero, List.set_cons_succ, decide_eq_true_eq, Bool.not_eq_true', decide_eq_false_iff_not, Nat.reduceAdd, Bool.not_true, Bool.not_false, Option.map_some, Option.map_none]) ?_
  refine fin_ex (ρ1 := [some (.val (.str (sT l))), some (.val (.bl b)), some (.val (.str (sT body))), some (.val (.str (sT ah))), some (.val (.str (sT bk))), some (.val (.str (sT pt))), none, none, none, none]) (μ1 := μ) (by simp only [ev, List.getElem?_cons_zero, List.getElem?_cons_succ, List.set_cons_zero, List.set_cons_succ, decide_eq_true_eq, Bool.not_eq_true', decide_eq_false_iff_not, Nat.reduceAdd, Bool.not_true, Bool.not_false, Option.map_some, Option.map_none, dp]) ?_
  have ni : dNotIn (.str "/") (.str (sT body)) = some (.val (.bl (!decide (47 ∈ body)))) := by rw [slash]; exact notin_sT
  by_cases h47 : 47 ∈ body
  · rw [decide_eq_true h47] at ni
    rw [if_pos h47]
    obtain ⟨x, y, lx, ly, hxy, hc⟩ := parts_call (μ := μ) lp (s0 := some (.val (.str (sT l)))) (s1 := some (.val (.bl b))) (s2 := some (.val (.str (sT body)))) (s3 := some (.val (.str (sT ah)))) (s4 := some (.val (.str (sT bk)))) (s6 := none) (s7 := none) (s8 := none)
    rw [prL_at hxy]
    have wc : callF fi_l_figures 1 [] [.val (.str (sT ah))] [] μ = some (.ok (.val (oN (lfN ah))), μ) := lfigs_call la
    refine fin_ex (ρ1 := [some (.val (.str (sT l))), some (.val (.bl b)), some (.val (.str (sT body))), some (.val (.str (sT ah))), some (.val (.str (sT bk))), some (.val (.str (sT pt))), none, none, none, none]) (μ1 := μ) (by simp only [ev, List.getElem?_cons_zero, List.getElem?_cons_succ, List.set_cons_zero, List.set_cons_succ, decide_eq_true_eq, Bool.not_eq_true', decide_eq_false_iff_not, Nat.reduceAdd, Bool.not_true, Bool.not_false, Option.map_some, Option.map_none, ni]) ?_
    refine fin_ex (ρ1 := [some (.val (.str (sT l))), some (.val (.bl b)), some (.val (.str (sT body))), some (.val (.str (sT ah))), some (.val (.str (sT bk))), some (.val (.str (sT pt))), none, some (.val (oN (lfN x))), some (.val (oN (lfN y))), none]) (μ1 := μ) (by simp only [ev, List.getElem?_cons_zero, List.getElem?_cons_succ, List.set_cons_zero, List.set_cons_succ, decide_eq_true_eq, Bool.not_eq_true', decide_eq_false_iff_not, Nat.reduceAdd, Bool.not_true, Bool.not_false, Option.map_some, Option.map_none, hc]) ?_
    obtain ⟨w, ew, hW⟩ : ∃ w : Option Nat, (if k = true then lfN ah else some 0) = w ∧ (∀ n, w = some n → Bd 40 (n : Int)) := ⟨_, rfl, fun n h => by
      cases k with
      | true => exact lf_bd h
      | false => cases h; unfold Bd; decide⟩
    refine fin_ex (ρ1 := [some (.val (.str (sT l))), some (.val (.bl b)), some (.val (.str (sT body))), some (.val (.str (sT ah))), some (.val (.str (sT bk))), some (.val (.str (sT pt))), some (.val (oN w)), some (.val (oN (lfN x))), some (.val (oN (lfN y))), none]) (μ1 := μ) (by
      cases k with
      | true =>
        rw [← ew]
        simp only [ev, List.getElem?_cons_zero, List.getElem?_cons_succ, List.set_cons_zero, List.set_cons_succ, decide_eq_true_eq, Bool.not_eq_true', decide_eq_false_iff_not, Nat.reduceAdd, Bool.not_true, Bool.not_false, Option.map_some, Option.map_none, nk, wc]
        try rfl
      | false =>
        rw [← ew]
        simp only [ev, List.getElem?_cons_zero, List.getElem?_cons_succ, List.set_cons_zero, List.set_cons_succ, decide_eq_true_eq, Bool.not_eq_true', decide_eq_false_iff_not, Nat.reduceAdd, Bool.not_true, Bool.not_false, Option.map_some, Option.map_none, nk]
        try rfl) ?_
    rw [ew]
    cases hx : lfN x with
    | none =>
      have i7 : dIs (oN none) .non = some (.val (.bl true)) := rfl
      have e0 : prM b none (lfN y) w k = none := rfl
      rw [e0]
      simp only [ev, List.getElem?_cons_zero, List.getElem?_cons_succ, List.set_cons_zero, List.set_cons_succ, decide_eq_true_eq, Bool.not_eq_true', decide_eq_false_iff_not, Nat.reduceAdd, Bool.not_true, Bool.not_false, Option.map_some, Option.map_none, i7, List.take_length]
      all_goals rfl
    | some t =>
      have bt := lf_bd hx
      have i7 : dIs (oN (some t)) .non = some (.val (.bl false)) := rfl
      cases hy : lfN y with
      | none =>
        have i8 : dIs (oN none) .non = some (.val (.bl true)) := rfl
        have e0 : prM b (some t) none w k = none := rfl
        rw [e0]
        simp only [ev, List.getElem?_cons_zero, List.getElem?_cons_succ, List.set_cons_zero, List.set_cons_succ, decide_eq_true_eq, Bool.not_eq_true', decide_eq_false_iff_not, Nat.reduceAdd, Bool.not_true, Bool.not_false, Option.map_some, Option.map_none, i7, i8, List.take_length]
        all_goals rfl
      | some u =>
        have bu := lf_bd hy
        have i8 : dIs (oN (some u)) .non = some (.val (.bl false)) := rfl
        cases w with
        | none =>
          have i6 : dIs (oN none) .non = some (.val (.bl true)) := rfl
          have e0 : prM b (some t) (some u) none k = none := rfl
          rw [e0]
          simp only [ev, List.getElem?_cons_zero, List.getElem?_cons_succ, List.set_cons_zero, List.set_cons_succ, decide_eq_true_eq, Bool.not_eq_true', decide_eq_false_iff_not, Nat.reduceAdd, Bool.not_true, Bool.not_false, Option.map_some, Option.map_none, i7, i8, i6, List.take_length]
          all_goals rfl
        | some n =>
          have bn := hW n rfl
          have i6 : dIs (oN (some n)) .non = some (.val (.bl false)) := rfl
          have q0 : dEq (oN (some n)) (.int 0) = some (.val (.bl (decide (n = 0)))) := eq_n0 (y := n)
          have e0 : prM b (some t) (some u) (some n) k = if (k = true ∧ n = 0) ∨ ¬ (0 < t ∧ t < u) ∨ Nat.gcd t u ≠ 1 then none else some (((n : Int) * (u : Int) + (t : Int)) * sg05 b, (u : Int)) := rfl
          rw [e0]
          by_cases k1 : k = true ∧ n = 0
          · rw [if_pos (.inl k1)]
            obtain ⟨k1, k2⟩ := k1
            subst k1
            rw [decide_eq_true k2] at q0
            simp only [ev, List.getElem?_cons_zero, List.getElem?_cons_succ, List.set_cons_zero, List.set_cons_succ, decide_eq_true_eq, Bool.not_eq_true', decide_eq_false_iff_not, Nat.reduceAdd, Bool.not_true, Bool.not_false, Option.map_some, Option.map_none, i7, i8, i6, nk, q0, List.take_length]
            all_goals rfl
          · have st : ∀ ρ : En, ρ = [some (.val (.str (sT l))), some (.val (.bl b)), some (.val (.str (sT body))), some (.val (.str (sT ah))), some (.val (.str (sT bk))), some (.val (.str (sT pt))), some (.val (oN (some n))), some (.val (oN (some t))), some (.val (oN (some u))), none] →
                (tOrM (tBl (mOp2 dIs (mVar 7) (mK .non))) (tOrM (tBl (mOp2 dIs (mVar 8) (mK .non))) (tOrM (tBl (mOp2 dIs (mVar 6) (mK .non))) (tAndM (tBl (mOp2 dNe (mVar 4) (mK (.str (sT []))))) (tBl (mOp2 dEq (mVar 6) (mK (.int 0)))))))) ρ μ = some (.ok false, μ) := fun ρ hρ => by
              subst hρ
              cases k with
              | false => simp only [ev, List.getElem?_cons_zero, List.getElem?_cons_succ, List.set_cons_zero, List.set_cons_succ, decide_eq_true_eq, Bool.not_eq_true', decide_eq_false_iff_not, Nat.reduceAdd, Bool.not_true, Bool.not_false, Option.map_some, Option.map_none, i7, i8, i6, nk]
              | true =>
                rw [decide_eq_false (fun q => k1 ⟨rfl, q⟩)] at q0
                simp only [ev, List.getElem?_cons_zero, List.getElem?_cons_succ, List.set_cons_zero, List.set_cons_succ, decide_eq_true_eq, Bool.not_eq_true', decide_eq_false_iff_not, Nat.reduceAdd, Bool.not_true, Bool.not_false, Option.map_some, Option.map_none, i7, i8, i6, nk, q0]
            have st := st _ rfl
            have i7 : oN (some t) = .int (t : Int) := rfl
            have i8 : oN (some u) = .int (u : Int) := rfl
            have i6 : oN (some n) = .int (n : Int) := rfl
            rw [i7, i8, i6] at st ⊢
            have cm := common05 (a := t) (b := u) (μ := μ)
            have m0 : dMul (.int 2) (.int (if b = true then 1 else 0)) = some (.val (.int (2 * (if b = true then 1 else 0)))) := mul_bd 2 2 (by unfold Bd; decide) (by cases b <;> (unfold Bd; decide))
            have m1 := mul_bd 40 40 bn bu
            have m2 := sg_mul (b := b) (((bn.mul bu).add (bt.mono (by decide))).mono (show 40 + 40 + 1 ≤ 200 by decide))
            have k3 : ((0 : Int) < (t : Int)) = (0 < t) := by rw [eq_iff_iff]; omega
            have k4 : ((t : Int) < (u : Int)) = (t < u) := by rw [eq_iff_iff]; omega
            have k5 : dNe (.int ((Nat.gcd t u : Nat) : Int)) (.int 1) = some (.val (.bl (!decide (Nat.gcd t u = 1)))) := by
              rw [ne_ii]
              congr 4
              exact decide_eq_decide.mpr (by omega)
            by_cases k6 : 0 < t
            · by_cases k7 : t < u
              · by_cases k8 : Nat.gcd t u = 1
                · rw [if_neg (by rintro (q | q | q); exact k1 q; exact q ⟨k6, k7⟩; exact q k8)]
                  rw [decide_eq_true k8] at k5
                  have k3' := eq_true (k3.mpr k6)
                  have k4' := eq_true (k4.mpr k7)
                  simp only [ev, List.getElem?_cons_zero, List.getElem?_cons_succ, List.set_cons_zero, List.set_cons_succ, decide_eq_true_eq, Bool.not_eq_true', decide_eq_false_iff_not, Nat.reduceAdd, Bool.not_true, Bool.not_false, Option.map_some, Option.map_none, ↓st, k3', k4', decide_true, cm, k5, m1, m0, m2, List.take_length]
                  all_goals rfl
                · rw [if_pos (.inr (.inr k8))]
                  rw [decide_eq_false k8] at k5
                  have k3' := eq_true (k3.mpr k6)
                  have k4' := eq_true (k4.mpr k7)
                  simp only [ev, List.getElem?_cons_zero, List.getElem?_cons_succ, List.set_cons_zero, List.set_cons_succ, decide_eq_true_eq, Bool.not_eq_true', decide_eq_false_iff_not, Nat.reduceAdd, Bool.not_true, Bool.not_false, Option.map_some, Option.map_none, ↓st, k3', k4', decide_true, cm, k5, List.take_length]
                  all_goals rfl
              · rw [if_pos (.inr (.inl fun q => k7 q.2))]
                have k3' := eq_true (k3.mpr k6)
                have k4' := eq_false (fun q => k7 (k4.mp q))
                simp only [ev, List.getElem?_cons_zero, List.getElem?_cons_succ, List.set_cons_zero, List.set_cons_succ, decide_eq_true_eq, Bool.not_eq_true', decide_eq_false_iff_not, Nat.reduceAdd, Bool.not_true, Bool.not_false, Option.map_some, Option.map_none, ↓st, k3', k4', decide_true, decide_false, List.take_length]
                all_goals rfl
            · rw [if_pos (.inr (.inl fun q => k6 q.1))]
              have k3' := eq_false (fun q => k6 (k3.mp q))
              simp only [ev, List.getElem?_cons_zero, List.getElem?_cons_succ, List.set_cons_zero, List.set_cons_succ, decide_eq_true_eq, Bool.not_eq_true', decide_eq_false_iff_not, Nat.reduceAdd, Bool.not_true, Bool.not_false, Option.map_some, Option.map_none, ↓st, k3', decide_false, List.take_length]
              all_goals rfl
  · rw [decide_eq_false h47] at ni
    rw [if_neg h47]
    have f := lfigs_call (μ := μ) hlen
    cases hn : lfN body with
    | none =>
      rw [hn] at f
      have i1 : dIs (oN none) .non = some (.val (.bl true)) := rfl
      have e0 : whM b none = none := rfl
      rw [e0]
      simp only [ev, List.getElem?_cons_zero, List.getElem?_cons_succ, List.set_cons_zero, List.set_cons_succ, decide_eq_true_eq, Bool.not_eq_true', decide_eq_false_iff_not, Nat.reduceAdd, Bool.not_true, Bool.not_false, Option.map_some, Option.map_none, ni, f, i1, List.take_length]
      all_goals rfl
    | some n =>
      rw [hn] at f
      have i1 : dIs (oN (some n)) .non = some (.val (.bl false)) := rfl
      have q0 : dEq (oN (some n)) (.int 0) = some (.val (.bl (decide (n = 0)))) := eq_n0 (y := n)
      have bn := lf_bd hn
      have m2 : dMul (oN (some n)) (.int (1 - 2 * (if b = true then 1 else 0))) = some (.val (.int ((n : Int) * sg05 b))) := sg_mul (b := b) (bn.mono (show 40 ≤ 200 by decide))
      have e0 : whM b (some n) = if b = true ∧ n = 0 then none else some ((n : Int) * sg05 b, 1) := rfl
      rw [e0]
      cases b with
      | false =>
        rw [if_neg (by simp)]
        have m2 : dMul (oN (some n)) (.int (1 - 2 * 0)) = some (.val (.int ((n : Int) * sg05 false))) := m2
        have m0 : dMul (.int 2) (.int 0) = some (.val (.int (2 * 0))) := mul_bd 2 2 (by unfold Bd; decide) (by unfold Bd; decide)
        simp only [ev, List.getElem?_cons_zero, List.getElem?_cons_succ, List.set_cons_zero, List.set_cons_succ, decide_eq_true_eq, Bool.not_eq_true', decide_eq_false_iff_not, Nat.reduceAdd, Bool.not_true, Bool.not_false, Option.map_some, Option.map_none, ni, f, i1, m0, m2, List.take_length]
        all_goals rfl
      | true =>
        by_cases n0 : n = 0
        · rw [if_pos ⟨rfl, n0⟩]
          rw [decide_eq_true n0] at q0
          simp only [ev, List.getElem?_cons_zero, List.getElem?_cons_succ, List.set_cons_zero, List.set_cons_succ, decide_eq_true_eq, Bool.not_eq_true', decide_eq_false_iff_not, Nat.reduceAdd, Bool.not_true, Bool.not_false, Option.map_some, Option.map_none, ni, f, i1, q0, List.take_length]
          all_goals rfl
        · rw [if_neg (fun q => n0 q.2)]
          rw [decide_eq_false n0] at q0
          have m2 : dMul (oN (some n)) (.int (1 - 2 * 1)) = some (.val (.int ((n : Int) * sg05 true))) := m2
          have m0 : dMul (.int 2) (.int 1) = some (.val (.int (2 * 1))) := mul_bd 2 2 (by unfold Bd; decide) (by unfold Bd; decide)
          simp only [ev, List.getElem?_cons_zero, List.getElem?_cons_succ, List.set_cons_zero, List.set_cons_succ, decide_eq_true_eq, Bool.not_eq_true', decide_eq_false_iff_not, Nat.reduceAdd, Bool.not_true, Bool.not_false, Option.map_some, Option.map_none, ni, f, i1, q0, m0, m2, List.take_length]
          all_goals rfl
end Law
set_option Elab.async false
set_option linter.all false
set_option maxRecDepth 100000
set_option maxHeartbeats 4000000
set_option exponentiation.threshold 100000
namespace Law
open PySem PySem.Spec L2 Sz
theorem figN_nlt {n m : Nat} (h : figN (TL.numL n) = some m) : n < 10 ^ 12 := by
  have hl := figN_lt h
  unfold figN at h
  split at h
  · injection h with h
    have e : valF (TL.numL n) = n := TL.numL_val n
    rw [e] at h
    omega
  · cases h
theorem rest_no32 {r d : Nat} : 32 ∉ TL.numL r ++ 47 :: TL.numL d := by
  simp only [List.mem_append, List.mem_cons, not_or]
  exact ⟨num_free32, by decide, num_free32⟩
theorem den_one {q : Rat} (h : rQ q = 0) : q.den = 1 := by
  obtain ⟨e1, _⟩ := q_parts q
  rw [h, Int.add_zero] at e1
  have w0 := w_nonneg q
  have e2 : q.num.natAbs = (wQ q).toNat * q.den := by
    have : (q.num.natAbs : Int) = (((wQ q).toNat * q.den : Nat) : Int) := by
      rw [Int.natCast_mul, Int.toNat_of_nonneg w0, e1]
    exact Int.ofNat.inj this
  have r := q.reduced
  have d : q.den ∣ q.num.natAbs := ⟨(wQ q).toNat, by rw [e2, Nat.mul_comm]⟩
  have g : Nat.gcd q.num.natAbs q.den = q.den := Nat.gcd_eq_right d
  rw [← g]
  exact r
theorem gcd_rest {q : Rat} : Nat.gcd (rQ q).toNat q.den = 1 := by
  obtain ⟨e1, _⟩ := q_parts q
  have w0 := w_nonneg q
  have r0 := r_nonneg q
  have e2 : q.num.natAbs = (wQ q).toNat * q.den + (rQ q).toNat := by
    have : (q.num.natAbs : Int) = (((wQ q).toNat * q.den + (rQ q).toNat : Nat) : Int) := by
      rw [Int.natCast_add, Int.natCast_mul, Int.toNat_of_nonneg w0, Int.toNat_of_nonneg r0, e1]
    exact Int.ofNat.inj this
  have r : Nat.gcd q.num.natAbs q.den = 1 := q.reduced
  rw [e2, Nat.gcd_comm, Nat.add_comm, Nat.gcd_add_mul_right_right, Nat.gcd_comm] at r
  exact r
structure B12 (q : Rat) : Prop where
  w : (wQ q).toNat < 10 ^ 12
  r : (rQ q).toNat < 10 ^ 12
  d : q.den < 10 ^ 12
theorem wr_b12 {q : Rat} {p : Nat × Nat} (h : wrL (bdL q) = some p) : B12 q := by
  have r0 := r_nonneg q
  have w0 := w_nonneg q
  have pt : ∀ {x y : Nat} {p : Nat × Nat}, ptL (TL.numL x ++ 47 :: TL.numL y) = some p → x < 10 ^ 12 ∧ y < 10 ^ 12 := fun {x y p} h => by
    unfold ptL at h
    rw [spF_hit num_free47] at h
    have h : ptM (figN (TL.numL x)) (figN (TL.numL y)) = some p := h
    cases hx : figN (TL.numL x) with
    | none => rw [hx] at h; cases h
    | some a =>
      cases hy : figN (TL.numL y) with
      | none => rw [hx, hy] at h; cases h
      | some b => exact ⟨figN_nlt hx, figN_nlt hy⟩
  unfold bdL at h
  by_cases c1 : rQ q = 0
  · rw [if_pos c1] at h
    unfold wrL at h
    rw [if_neg num_free47] at h
    obtain ⟨n, hn, _⟩ := Option.map_eq_some_iff.mp h
    exact ⟨figN_nlt hn, by rw [c1]; decide, by rw [den_one c1]; decide⟩
  · rw [if_neg c1] at h
    by_cases c2 : wQ q = 0
    · rw [if_pos c2] at h
      unfold wrL at h
      rw [if_pos (by simp), spR_none.mpr rest_no32] at h
      obtain ⟨a, b⟩ := pt h
      exact ⟨by rw [c2]; decide, a, b⟩
    · rw [if_neg c2] at h
      unfold wrL at h
      rw [if_pos (by simp), spR_hit rest_no32] at h
      obtain ⟨x0, w, hp, hw, _⟩ := wrM_some (x := p.1) (y := p.2) h
      obtain ⟨a, b⟩ := pt hp
      exact ⟨figN_nlt hw, a, b⟩
theorem bdL_head {q : Rat} : ¬ (bdL q).take 1 = [45] := by
  unfold bdL
  split
  · have := head_num (n := (wQ q).toNat) (l := [])
    rw [List.append_nil] at this
    exact this
  · split
    · exact head_num
    · exact head_num
theorem ms_b12 {l : List Nat} {q : Rat} (h : msL l = some q) : mL q = l ∧ B12 q := by
  have e := (ms_bq h).2
  refine ⟨e, ?_⟩
  have key : ∃ p, wrL (bdL q) = some p := by
    unfold msL at h
    by_cases hn : q.num < 0
    · have em : l = 45 :: bdL q := by
        rw [← e]
        unfold mL sgL
        rw [if_pos hn]
        rfl
      rw [em, if_pos (by rfl)] at h
      have h : msN (45 :: bdL q) _ (wrL (bdL q)) = some q := h
      cases hw : wrL (bdL q) with
      | none => rw [hw] at h; cases h
      | some p => exact ⟨p, rfl⟩
    · have em : l = bdL q := by
        rw [← e]
        unfold mL sgL
        rw [if_neg hn]
        rfl
      rw [em, if_neg bdL_head] at h
      cases hw : wrL (bdL q) with
      | none => rw [hw] at h; cases h
      | some p => exact ⟨p, rfl⟩
  obtain ⟨p, hp⟩ := key
  exact wr_b12 hp
theorem num_sg (q : Rat) : q.num = (q.num.natAbs : Int) * sg05 (decide (q.num < 0)) := by
  by_cases h : q.num < 0
  · rw [decide_eq_true h]
    show _ = _ * (-1 : Int)
    omega
  · rw [decide_eq_false h]
    show _ = _ * (1 : Int)
    omega
theorem bdR_bd {q : Rat} (B : B12 q) : bdR (decide (q.num < 0)) (bdL q) = some (q.num, (q.den : Int)) := by
  obtain ⟨e1, e2⟩ := q_parts q
  have w0 := w_nonneg q
  have r0 := r_nonneg q
  have d0 := den_pos' q
  have ns := num_sg q
  unfold bdL
  by_cases c1 : rQ q = 0
  · rw [if_pos c1]
    unfold bdR
    rw [if_neg num_free47, lfN_num B.w]
    have d1 := den_one c1
    have ew : (q.num.natAbs : Int) = ((wQ q).toNat : Int) := by
      rw [e1, c1, d1, Int.toNat_of_nonneg w0]
      omega
    show (if _ then none else some _) = _
    rw [if_neg ?_]
    · rw [← ew, ← ns, d1]
      rfl
    · rintro ⟨a, b⟩
      have := of_decide_eq_true a
      omega
  · rw [if_neg c1]
    have r1 : 0 < (rQ q).toNat := by omega
    have r2 : (rQ q).toNat < q.den := by omega
    have fin : ∀ (w : Nat) (k : Bool), ((w : Nat) : Int) = wQ q → ¬ (k = true ∧ w = 0) → prM (decide (q.num < 0)) (lfN (TL.numL (rQ q).toNat)) (lfN (TL.numL q.den)) (some w) k = some (q.num, (q.den : Int)) := fun w k hw hk => by
      rw [lfN_num B.r, lfN_num B.d]
      show (if _ then none else some _) = _
      rw [if_neg (by
        rintro (z | z | z)
        · exact hk z
        · exact z ⟨r1, r2⟩
        · exact z gcd_rest)]
      rw [hw, Int.toNat_of_nonneg r0, ← e1, ← ns]
    by_cases c2 : wQ q = 0
    · rw [if_pos c2]
      unfold bdR
      rw [if_pos (by simp), spR_none.mpr rest_no32]
      show prL _ _ _ _ = _
      unfold prL
      rw [spF_hit num_free47]
      exact fin 0 false c2.symm (by simp)
    · rw [if_neg c2]
      unfold bdR
      rw [if_pos (by simp), spR_hit rest_no32]
      show prL _ _ _ _ = _
      unfold prL
      rw [spF_hit num_free47, lfN_num B.w]
      exact fin _ true (Int.toNat_of_nonneg w0) (fun z => by omega)
theorem rd_mL {q : Rat} (B : B12 q) : rdL (mL q) = some (q.num, (q.den : Int)) := by
  have h := bdR_bd B
  unfold rdL
  by_cases hn : q.num < 0
  · have em : mL q = 45 :: bdL q := by
      unfold mL sgL
      rw [if_pos hn]
      rfl
    rw [em, if_pos (by rfl)]
    rw [decide_eq_true hn] at h
    exact h
  · have em : mL q = bdL q := by
      unfold mL sgL
      rw [if_neg hn]
      rfl
    rw [em, if_neg bdL_head]
    rw [decide_eq_false hn] at h
    exact h
/-- a measure of a sign, a whole, a rest -/
theorem mk_q {b : Bool} {w t u : Nat} (h1 : t < u) (h2 : Nat.gcd t u = 1) (h3 : b = true → 0 < w + t) :
    ∃ q : Rat, q.num = ((w : Int) * (u : Int) + (t : Int)) * sg05 b ∧ q.den = u ∧ wQ q = (w : Int) ∧ rQ q = (t : Int) ∧ sgL q = if b = true then [45] else [] := by
  have na : (((w : Int) * (u : Int) + (t : Int)) * sg05 b).natAbs = w * u + t := by
    have e : ((w : Int) * (u : Int) + (t : Int)) = ((w * u + t : Nat) : Int) := by rw [Int.natCast_add, Int.natCast_mul]
    rw [e]
    cases b with
    | true =>
      show (_ * (-1 : Int)).natAbs = _
      omega
    | false =>
      show (_ * (1 : Int)).natAbs = _
      omega
  have red : Nat.gcd (w * u + t) u = 1 := by
    rw [Nat.gcd_comm, Nat.add_comm, Nat.gcd_add_mul_right_right, Nat.gcd_comm]
    exact h2
  refine ⟨⟨((w : Int) * (u : Int) + (t : Int)) * sg05 b, u, by omega, by rw [na]; exact red⟩, rfl, rfl, ?_, ?_, ?_⟩
  · show ((((w : Int) * (u : Int) + (t : Int)) * sg05 b).natAbs : Int).fdiv (u : Int) = _
    rw [na, Int.fdiv_eq_ediv_of_nonneg _ (by omega)]
    have : (w * u + t) / u = w := by
      rw [Nat.add_comm, Nat.add_mul_div_right _ _ (by omega), Nat.div_eq_of_lt h1, Nat.zero_add]
    rw [← Int.natCast_ediv, this]
  · show ((((w : Int) * (u : Int) + (t : Int)) * sg05 b).natAbs : Int).fmod (u : Int) = _
    rw [na, Int.fmod_eq_emod_of_nonneg _ (by omega)]
    have : (w * u + t) % u = t := by
      rw [Nat.add_comm, Nat.add_mul_mod_self_right, Nat.mod_eq_of_lt h1]
    rw [← Int.natCast_emod, this]
  · unfold sgL
    show (if ((w : Int) * (u : Int) + (t : Int)) * sg05 b < 0 then _ else _) = _
    have e : ((w : Int) * (u : Int) + (t : Int)) = ((w * u + t : Nat) : Int) := by rw [Int.natCast_add, Int.natCast_mul]
    rw [e]
    cases b with
    | true =>
      have p : 0 < w * u + t := by
        have := h3 rfl
        rcases Nat.eq_zero_or_pos w with z | z
        · omega
        · have : 0 < w * u := Nat.mul_pos z (by omega)
          omega
      have z : ((w * u + t : Nat) : Int) * sg05 true < 0 := by
        show ((w * u + t : Nat) : Int) * (-1) < 0
        omega
      rw [if_pos z, if_pos rfl]
    | false =>
      have z : ¬ ((w * u + t : Nat) : Int) * sg05 false < 0 := by
        show ¬ ((w * u + t : Nat) : Int) * 1 < 0
        omega
      rw [if_neg z, if_neg (by simp)]
theorem bdR_some {b : Bool} {l : List Nat} {x y : Int} (h : bdR b l = some (x, y)) : ∃ q : Rat, q.num = x ∧ (q.den : Int) = y ∧ B12 q ∧ mL q = (if b = true then [45] else []) ++ l := by
  unfold bdR at h
  by_cases h47 : 47 ∈ l
  · rw [if_pos h47] at h
    have key : ∀ (p : List Nat) (w : Option Nat) (k : Bool), prL b p w k = some (x, y) → ∃ t u n : Nat, w = some n ∧ p = TL.numL t ++ 47 :: TL.numL u ∧ t < 10 ^ 12 ∧ u < 10 ^ 12 ∧ 0 < t ∧ t < u ∧ Nat.gcd t u = 1 ∧ ¬ (k = true ∧ n = 0) ∧ x = ((n : Int) * (u : Int) + (t : Int)) * sg05 b ∧ y = (u : Int) := by
      intro p w k h
      unfold prL at h
      cases e : spF 47 p with
      | none => rw [e] at h; cases h
      | some z =>
        obtain ⟨c, d⟩ := z
        rw [e] at h
        have h : prM b (lfN c) (lfN d) w k = some (x, y) := h
        obtain ⟨e1, _⟩ := spF_some e
        cases hc : lfN c with
        | none => rw [hc] at h; cases h
        | some t =>
          cases hd : lfN d with
          | none => rw [hc, hd] at h; cases h
          | some u =>
            cases w with
            | none => rw [hc, hd] at h; cases h
            | some n =>
              rw [hc, hd] at h
              have h : (if (k = true ∧ n = 0) ∨ ¬ (0 < t ∧ t < u) ∨ Nat.gcd t u ≠ 1 then none else some (((n : Int) * (u : Int) + (t : Int)) * sg05 b, (u : Int))) = some (x, y) := h
              split at h
              · cases h
              · rename_i c1
                cases h
                obtain ⟨f1, f2⟩ := lfN_some hc
                obtain ⟨f3, f4⟩ := lfN_some hd
                have g1 : ¬ (k = true ∧ n = 0) := fun z => c1 (.inl z)
                have g2 : 0 < t ∧ t < u := Classical.byContradiction fun z => c1 (.inr (.inl z))
                have g3 : Nat.gcd t u = 1 := Classical.byContradiction fun z => c1 (.inr (.inr z))
                exact ⟨t, u, n, rfl, by rw [e1, f1, f3], f2, f4, g2.1, g2.2, g3, g1, rfl, rfl⟩
    cases e : spR 32 l with
    | none =>
      rw [e] at h
      obtain ⟨t, u, n, e1, e2, t1, u1, t0, tu, g, _, rfl, rfl⟩ := key _ _ _ h
      cases e1
      obtain ⟨q, q1, q2, q3, q4, q5⟩ := mk_q (b := b) (w := 0) tu g (fun _ => by omega)
      refine ⟨q, q1, by rw [q2], ⟨by rw [q3]; decide, by rw [q4]; exact t1, by rw [q2]; exact u1⟩, ?_⟩
      unfold mL bdL
      have z1 : ¬ ((t : Nat) : Int) = 0 := by omega
      have z2 : ((0 : Nat) : Int) = 0 := rfl
      rw [q5, q3, q4, if_neg z1, if_pos z2, q2, e2]
      rfl
    | some z =>
      obtain ⟨c, d⟩ := z
      rw [e] at h
      obtain ⟨t, u, n, e1, e2, t1, u1, t0, tu, g, hk, rfl, rfl⟩ := key _ _ _ h
      obtain ⟨f1, f2⟩ := lfN_some e1
      have n0 : n ≠ 0 := fun z => hk ⟨rfl, z⟩
      obtain ⟨e3, _⟩ := spR_some e
      obtain ⟨q, q1, q2, q3, q4, q5⟩ := mk_q (b := b) (w := n) tu g (fun _ => by omega)
      refine ⟨q, q1, by rw [q2], ⟨by rw [q3]; exact f2, by rw [q4]; exact t1, by rw [q2]; exact u1⟩, ?_⟩
      unfold mL bdL
      have z1 : ¬ ((t : Nat) : Int) = 0 := by omega
      have z2 : ¬ ((n : Nat) : Int) = 0 := by omega
      rw [q5, q3, q4, if_neg z1, if_neg z2, q2, e3, f1, e2]
      rfl
  · rw [if_neg h47] at h
    cases hn : lfN l with
    | none => rw [hn] at h; cases h
    | some w =>
      rw [hn] at h
      have h : (if b = true ∧ w = 0 then none else some ((w : Int) * sg05 b, 1)) = some (x, y) := h
      split at h
      · cases h
      · rename_i c1
        cases h
        obtain ⟨f1, f2⟩ := lfN_some hn
        obtain ⟨q, q1, q2, q3, q4, q5⟩ := mk_q (b := b) (w := w) (t := 0) (u := 1) (by decide) rfl (fun z => Nat.pos_of_ne_zero fun w0 => c1 ⟨z, by omega⟩)
        refine ⟨q, by rw [q1, show ((1 : Nat) : Int) = 1 from rfl, Int.mul_one, show ((0 : Nat) : Int) = 0 from rfl, Int.add_zero], by rw [q2]; rfl, ⟨by rw [q3]; exact f2, by rw [q4]; decide, by rw [q2]; decide⟩, ?_⟩
        unfold mL bdL
        have z2 : ((0 : Nat) : Int) = 0 := rfl
        rw [q5, q3, q4, if_pos z2, f1]
        rfl
theorem rd_some {l : List Nat} {x y : Int} (h : rdL l = some (x, y)) : ∃ q : Rat, msL l = some q ∧ q.num = x ∧ (q.den : Int) = y := by
  have key : ∃ q : Rat, q.num = x ∧ (q.den : Int) = y ∧ B12 q ∧ mL q = l := by
    unfold rdL at h
    by_cases c : l.take 1 = [45]
    · rw [if_pos c] at h
      obtain ⟨q, q1, q2, q3, q4⟩ := bdR_some h
      refine ⟨q, q1, q2, q3, q4.trans ?_⟩
      rw [if_pos rfl]
      cases l with
      | nil => cases c
      | cons d r =>
        rw [List.take_succ_cons, List.take_zero] at c
        injection c with c
        rw [c]
        rfl
    · rw [if_neg c] at h
      obtain ⟨q, q1, q2, q3, q4⟩ := bdR_some h
      refine ⟨q, q1, q2, q3, q4.trans ?_⟩
      rw [if_neg (by simp), List.nil_append]
  obtain ⟨q, q1, q2, q3, q4⟩ := key
  refine ⟨q, ?_, q1, q2⟩
  rw [← q4]
  exact ms_text q3.w q3.r q3.d
/-- what is told either way -/
theorem rd_ms (l : List Nat) : rdL l = (msL l).map fun q => (q.num, (q.den : Int)) := by
  cases e : msL l with
  | none =>
    cases h : rdL l with
    | none => rfl
    | some p =>
      obtain ⟨x, y⟩ := p
      obtain ⟨q, q1, _⟩ := rd_some h
      rw [e] at q1
      cases q1
  | some q =>
    obtain ⟨e1, B⟩ := ms_b12 e
    rw [← e1]
    exact rd_mL B
end Law
set_option Elab.async false
set_option linter.all false
set_option maxRecDepth 100000
set_option maxHeartbeats 4000000
set_option exponentiation.threshold 100000
namespace Law
open PySem PySem.Spec L2 Sz
def telM : Option Rat → Except Ex S
  | some q => .ok (.val (mQ q))
  | none => .error (.own 1 [])
theorem rm_sem {l : List Nat} {μ : Sto} (hl : l.length ≤ 16000000) : fi_read_measure.sem [.val (.str (sT l))] μ = some (telM (msL l), μ) := by
  rw [sem_read_measure]
  unfold c_read_measure
  have h1 : bIsi nKit nKit subK [.str (sT l), .ty "str"] = some (.val (.bl true)) := rfl
  have e := measure_in_call (μ := μ) hl
  cases hm : msL l with
  | none =>
    rw [hm] at e
    have i : dIs (oM none) .non = some (.val (.bl true)) := rfl
    simp only [ev, List.getElem?_cons_zero, List.getElem?_cons_succ, List.set_cons_zero, List.set_cons_succ, decide_eq_true_eq, Bool.not_eq_true', decide_eq_false_iff_not, Nat.reduceAdd, Bool.not_true, Bool.not_false, Option.map_some, Option.map_none, h1, e, i, List.take_length]
    try rfl
  | some q =>
    rw [hm] at e
    have i : dIs (oM (some q)) .non = some (.val (.bl false)) := rfl
    simp only [ev, List.getElem?_cons_zero, List.getElem?_cons_succ, List.set_cons_zero, List.set_cons_succ, decide_eq_true_eq, Bool.not_eq_true', decide_eq_false_iff_not, Nat.reduceAdd, Bool.not_true, Bool.not_false, Option.map_some, Option.map_none, h1, e, i, List.take_length]
    try rfl
theorem rm_pos {l : List Nat} {μ : Sto} (hl : l.length ≤ 16000000) : callF fi_read_measure 1 [] [.val (.str (sT l))] [] μ = some (telM (msL l), μ) := (callF_eq rfl rfl rfl).trans (rm_sem hl)
theorem rm_kw {l : List Nat} {μ : Sto} (hl : l.length ≤ 16000000) : callF fi_read_measure 0 ["text"] [] [.val (.str (sT l))] μ = some (telM (msL l), μ) := (callF_eq rfl rfl rfl).trans (rm_sem hl)
theorem rm_bad {d : D} {μ : Sto} (h : bIsi nKit nKit subK [d, .ty "str"] = some (.val (.bl false))) : callF fi_read_measure 1 [] [.val d] [] μ = some (.error (.own 1 []), μ) := by
  rw [cl_read_measure_1]
  rw [sem_read_measure]
  unfold c_read_measure
  simp only [ev, List.getElem?_cons_zero, List.getElem?_cons_succ, List.set_cons_zero, List.set_cons_succ, decide_eq_true_eq, Bool.not_eq_true', decide_eq_false_iff_not, Nat.reduceAdd, Bool.not_true, Bool.not_false, Option.map_some, Option.map_none, h, List.take_length]
  try rfl
theorem ms_is {q : Rat} (h : BQ 90 q) : IsM 90 q.num (q.den : Int) q.num (q.den : Int) := ⟨den_pos' q, rfl, h.t, h.b, by rw [Int.natAbs_natCast]; exact q.reduced⟩
theorem y1 : tX.exmF 1 3 = some true := rfl
theorem y2 : tX.exmF 1 1 = some true := rfl
theorem z1 : bIsiY (subY tX tXi) (tyY tX tXi) (bIsi nKit nKit subK) [.exc 1 [], .tup [.cls 4, .cls 5, .cls 6, .cls 7, .cls 8]] = some (.val (.bl false)) := rfl
theorem z2 : bIsiY (subY tX tXi) (tyY tX tXi) (bIsi nKit nKit subK) [.exc 1 [], .cls 1] = some (.val (.bl true)) := rfl
theorem z3 : bIsiY (subY tX tXi) (tyY tX tXi) (bIsi nKit nKit subK) [.exc 1 [], .ty "ValueError"] = some (.val (.bl true)) := rfl
theorem mod2 {n : Nat} : ∃ k : Int, dMod (.int (n : Int)) (.int 2) = some (.val (.int k)) := ⟨_, mod_ii (by decide)⟩
theorem right05 {l : List Nat} {μ : Sto} (hl : l.length ≤ 16000000) : callF fi_l_right 1 [] [.val (.str (sT l))] [] μ = some (.ok (.val (.bl true)), μ) := by
  rw [cl_l_right_1, sem_l_right]
  unfold c_l_right
  unfold c_l_right_b2 c_l_right_b1
  have r := lread_call (μ := μ) hl
  rw [rd_ms] at r
  obtain ⟨k, hk⟩ := mod2 (n := l.length)
  have len := len_sT hl
  have rp := rm_pos (μ := μ) hl
  have rk := rm_kw (μ := μ) hl
  cases hm : msL l with
  | none =>
    rw [hm] at r rp rk
    have r : callF fi_l_read 1 [] [.val (.str (sT l))] [] μ = some (.ok (.val .non), μ) := r
    have rp : callF fi_read_measure 1 [] [.val (.str (sT l))] [] μ = some (.error (.own 1 []), μ) := rp
    have rk : callF fi_read_measure 0 ["text"] [] [.val (.str (sT l))] μ = some (.error (.own 1 []), μ) := rk
    by_cases c : k = 0
    · have c' := eq_true c
      simp only [ev, List.getElem?_cons_zero, List.getElem?_cons_succ, List.set_cons_zero, List.set_cons_succ, decide_eq_true_eq, Bool.not_eq_true', decide_eq_false_iff_not, Nat.reduceAdd, Bool.not_true, Bool.not_false, Option.map_some, Option.map_none, r, len, hk, c', decide_true, rk, y1, z1, z2, z3, List.take_length]
    · have c' := eq_false c
      simp only [ev, List.getElem?_cons_zero, List.getElem?_cons_succ, List.set_cons_zero, List.set_cons_succ, decide_eq_true_eq, Bool.not_eq_true', decide_eq_false_iff_not, Nat.reduceAdd, Bool.not_true, Bool.not_false, Option.map_some, Option.map_none, r, len, hk, c', decide_false, rp, y1, z1, z2, z3, List.take_length]
  | some q =>
    rw [hm] at r rp rk
    obtain ⟨bq, e⟩ := ms_bq hm
    have r : callF fi_l_read 1 [] [.val (.str (sT l))] [] μ = some (.ok (.val (.tup [.int q.num, .int (q.den : Int)])), μ) := r
    have rp : callF fi_read_measure 1 [] [.val (.str (sT l))] [] μ = some (.ok (.val (mQ q)), μ) := rp
    have rk : callF fi_read_measure 0 ["text"] [] [.val (.str (sT l))] μ = some (.ok (.val (mQ q)), μ) := rk
    have i : dIsNot (.tup [.int q.num, .int (q.den : Int)]) .non = some (.val (.bl true)) := rfl
    have a1 : atI [D.int q.num, .int (q.den : Int)] 1 = some (.int (q.den : Int)) := rfl
    have I := is_call (μ := μ) (ms_is bq) bq.t bq.b (by decide)
    have st := str_mQ (bq.mono (show 90 ≤ 1300 by decide))
    have qe : dEq (.str (sT (mL q))) (.str (sT l)) = some (.val (.bl true)) := by
      rw [eq_sT, decide_eq_true e]
    by_cases c : k = 0
    · have c' := eq_true c
      simp only [ev, List.getElem?_cons_zero, List.getElem?_cons_succ, List.set_cons_zero, List.set_cons_succ, decide_eq_true_eq, Bool.not_eq_true', decide_eq_false_iff_not, Nat.reduceAdd, Bool.not_true, Bool.not_false, Option.map_some, Option.map_none, r, len, hk, c', decide_true, rk, i, a1, I, st, qe, List.take_length]
    · have c' := eq_false c
      simp only [ev, List.getElem?_cons_zero, List.getElem?_cons_succ, List.set_cons_zero, List.set_cons_succ, decide_eq_true_eq, Bool.not_eq_true', decide_eq_false_iff_not, Nat.reduceAdd, Bool.not_true, Bool.not_false, Option.map_some, Option.map_none, r, len, hk, c', decide_false, rp, i, a1, I, st, qe, List.take_length]
theorem refused05 {d : D} {μ : Sto} (h : bIsi nKit nKit subK [d, .ty "str"] = some (.val (.bl false))) : callF fi_l_refused 1 [] [.val d] [] μ = some (.ok (.val (.bl true)), μ) := by
  rw [cl_l_refused_1, sem_l_refused]
  unfold c_l_refused
  unfold c_l_refused_b2 c_l_refused_b1
  have e := rm_bad (μ := μ) h
  simp only [ev, List.getElem?_cons_zero, List.getElem?_cons_succ, List.set_cons_zero, List.set_cons_succ, decide_eq_true_eq, Bool.not_eq_true', decide_eq_false_iff_not, Nat.reduceAdd, Bool.not_true, Bool.not_false, Option.map_some, Option.map_none, e, y2, List.take_length]
end Law
set_option Elab.async false
set_option linter.all false
set_option maxRecDepth 100000
set_option maxHeartbeats 4000000
set_option exponentiation.threshold 100000
namespace Law
open PySem PySem.Spec L2 Sz
theorem str_i {i : Int} (h : Bd 1900 i) : bStr [.int i] = some (.val (.str (tI i))) := by
  show (if i.natAbs.log2 < 1920 then _ else none) = _
  rw [if_pos (text_bd h)]
theorem add_sT {a b : List Nat} (h : a.length + b.length ≤ 16000000) : dAdd (.str (sT a)) (.str (sT b)) = some (.val (.str (sT (a ++ b)))) := by
  rw [show sT (a ++ b) = sT a ++ sT b from (by rw [SX.S_cat])]
  show (if (sT a).length + (sT b).length ≤ sizeLine then _ else _) = _
  exact if_pos (by rw [sT_len, sT_len, sizeLine_eq]; omega)
theorem one_is : ("1" : Str) = sT [49] := by decide +kernel
theorem rep0 {n : Nat} (h : n ≤ 1000000) : dMulR (.str "0") (.int (n : Int)) = some (.val (.str (sT (List.replicate n 48)))) := by
  rw [nought_is]
  exact mulR_rep h
theorem rep7 {n : Nat} (h : n ≤ 1000000) : dMulR (.str "7") (.int (n : Int)) = some (.val (.str (sT (List.replicate n 55)))) := by
  rw [show ("7" : Str) = sT [55] by decide +kernel]
  exact mulR_rep h
theorem ten_val : ∀ k, k < 13 → 0 < valF (49 :: List.replicate k 48) ∧ valF (49 :: List.replicate k 48) ≤ 10 ^ 12 ∧ (49 :: List.replicate k 48).all isFig = true := by decide +kernel
theorem number_call {μ : Sto} {k n : Nat} (h : HandAt μ k n) (hn : n < 2 ^ 190) : ∃ (v : Nat) (μ' : Sto), callF fi_l_number_of 1 [] [.cell k] [] μ = some (.ok (.val (.int (v : Int))), μ') ∧ v < 10 ^ 13 ∧ 0 < v ∧ HandAt μ' k (n + 3) ∧ Upd k μ μ' := by
  rw [cl_l_number_of_1, sem_l_number_of]
  unfold c_l_number_of
  obtain ⟨i, μ1, e1, a1, b1, h1, u1⟩ := take_call (m := 8) h (by decide) (by unfold Bd; decide)
  obtain ⟨w, hw, hm⟩ := atI_mem (l := [D.int 1, D.int 1, D.int 2, D.int 3, D.int 11, D.int 12, D.int 12, D.int 13]) (i := i) a1 b1
  obtain ⟨z, hz, rfl⟩ : ∃ z : Nat, z < 13 ∧ w = .int ((z : Int) + 1) := by
    simp only [List.mem_cons, List.not_mem_nil, or_false] at hm
    rcases hm with rfl | rfl | rfl | rfl | rfl | rfl | rfl | rfl
    · exact ⟨0, by decide, rfl⟩
    · exact ⟨0, by decide, rfl⟩
    · exact ⟨1, by decide, rfl⟩
    · exact ⟨2, by decide, rfl⟩
    · exact ⟨10, by decide, rfl⟩
    · exact ⟨11, by decide, rfl⟩
    · exact ⟨11, by decide, rfl⟩
    · exact ⟨12, by decide, rfl⟩
  obtain ⟨t1, t2, t3⟩ := ten_val z hz
  have r0 := rep0 (n := z) (by omega)
  have ez : (z : Int) + 1 - 1 = (z : Int) := by omega
  have ad := add_sT (a := [49]) (b := List.replicate z 48) (by rw [List.length_replicate]; show 1 + z ≤ _; omega)
  rw [← one_is] at ad
  have bi := bInt_figs (l := [49] ++ List.replicate z 48) t3 (by simp) (by rw [List.length_append, List.length_replicate]; show 1 + z ≤ _; omega)
  obtain ⟨x, hx⟩ : ∃ x, x = valF (49 :: List.replicate z 48) := ⟨_, rfl⟩
  have bi : bInt [.str (sT ([49] ++ List.replicate z 48))] = some (.val (.int (x : Int))) := by rw [hx]; exact bi
  rw [← hx] at t1 t2
  have bx : Bd 40 (x : Int) := nat_bd (Nat.lt_of_le_of_lt t2 (by decide))
  have m1 := mul_bd (i := (10 : Int)) (j := (x : Int)) 4 40 (by unfold Bd; decide) bx
  have m2 := mul_bd (i := (9 : Int)) (j := (x : Int)) 4 40 (by unfold Bd; decide) bx
  obtain ⟨y, μ2, e2, a2, b2, h2, u2⟩ := take_call (m := 9 * (x : Int)) h1 (by omega) (by unfold Bd; omega)
  obtain ⟨j, μ3, e3, a3, b3, h3, u3⟩ := take_call (m := 3) h2 (by decide) (by unfold Bd; decide)
  obtain ⟨v, hv, hm3⟩ := atI_mem (l := [D.int (10 * (x : Int) - 1), D.int (x : Int), D.int ((x : Int) + y)]) (i := j) a3 b3
  obtain ⟨v', hv', e', f'⟩ : ∃ v' : Nat, v = .int (v' : Int) ∧ v' < 10 ^ 13 ∧ 0 < v' := by
    simp only [List.mem_cons, List.not_mem_nil, or_false] at hm3
    rcases hm3 with rfl | rfl | rfl
    · exact ⟨10 * x - 1, by congr 1; omega, by omega, by omega⟩
    · exact ⟨x, rfl, by omega, by omega⟩
    · exact ⟨x + y.toNat, by congr 1; omega, by omega, by omega⟩
  subst hv'
  simp only [ev, List.getElem?_cons_zero, List.getElem?_cons_succ, List.set_cons_zero, List.set_cons_succ, decide_eq_true_eq, Bool.not_eq_true', decide_eq_false_iff_not, Nat.reduceAdd, Bool.not_true, Bool.not_false, Option.map_some, Option.map_none, e1, hw, ez, r0, ad, bi, m1, m2, e2, e3, hv]
  have u := (u1.trans u2).trans u3
  refine ⟨v', _, rfl, e', f', ?_, ?_⟩
  · rw [u.take]; exact h3
  · rw [u.take]; exact u
theorem num_len13 {n : Nat} (h : n < 10 ^ 14) : (TL.numL n).length ≤ 14 := TL.numL_len (by decide) h
theorem str_nat {n : Nat} (h : n < 10 ^ 14) : bStr [.int (n : Int)] = some (.val (.str (sT (TL.numL n)))) := by
  have e := str_i (i := (n : Int)) (Bd.mono (nat_bd (n := 50) (Nat.lt_trans h (by decide))) (by decide))
  rw [tI_nat (by omega), Int.toNat_natCast] at e
  exact e
theorem text_of_call {μ : Sto} {k n : Nat} (h : HandAt μ k n) (hn : n < 2 ^ 180) : ∃ (l : List Nat) (μ' : Sto), callF fi_l_text_of 1 [] [.cell k] [] μ = some (.ok (.val (.str (sT l))), μ') ∧ l.length ≤ 100 ∧ HandAt μ' k (n + 11) ∧ Upd k μ μ' := by
  rw [cl_l_text_of_1, sem_l_text_of]
  unfold c_l_text_of
  obtain ⟨f, μ1, e1, a1, b1, h1, u1⟩ := take_call (m := 4) h (by decide) (by unfold Bd; decide)
  obtain ⟨x, μ2, e2, x1, x0, h2, u2⟩ := number_call h1 (by omega)
  obtain ⟨y, μ3, e3, y1, y0, h3, u3⟩ := number_call h2 (by omega)
  obtain ⟨z, μ4, e4, z1, z0, h4, u4⟩ := number_call h3 (by omega)
  obtain ⟨s, μ5, e5, a5, b5, h5, u5⟩ := take_call (m := 3) h4 (by decide) (by unfold Bd; decide)
  obtain ⟨w, hw, hm⟩ := atI_mem (l := [D.str "", D.str "-", D.str ""]) (i := s) a5 b5
  obtain ⟨sg, rfl, sgl⟩ : ∃ sg : List Nat, w = .str (sT sg) ∧ sg.length ≤ 1 := by
    simp only [List.mem_cons, List.not_mem_nil, or_false] at hm
    rcases hm with rfl | rfl | rfl
    · exact ⟨[], by rw [nosign], by decide⟩
    · exact ⟨[45], by rw [minus], by decide⟩
    · exact ⟨[], by rw [nosign], by decide⟩
  have u := (((u1.trans u2).trans u3).trans u4).trans u5
  have cm := fun ν : Sto => common05 (a := y) (b := y + z) (μ := ν)
  obtain ⟨p, hp⟩ : ∃ p, p = Nat.gcd y (y + z) := ⟨_, rfl⟩
  have cm : ∀ ν : Sto, callF fi_l_common 2 [] [.val (.int (y : Int)), .val (.int ((y : Int) + (z : Int)))] [] ν = some (.ok (.val (.int (p : Int))), ν) := fun ν => by
    have := cm ν
    rw [Int.natCast_add, ← hp] at this
    exact this
  have p0 : 0 < p := by rw [hp]; exact Nat.gcd_pos_of_pos_left _ y0
  have p1 : p ≤ y := by rw [hp]; exact Nat.le_of_dvd y0 (Nat.gcd_dvd_left _ _)
  have bp : Bd 44 (p : Int) := nat_bd (Nat.lt_of_le_of_lt p1 (Nat.lt_trans y1 (by decide)))
  have d1 := fdiv_ii (i := (y : Int)) (j := (p : Int)) 44 (by omega) bp
  have d2 := fdiv_ii (i := (y : Int) + (z : Int)) (j := (p : Int)) 44 (by omega) bp
  rw [Int.fdiv_eq_ediv_of_nonneg _ (by omega), ← Int.natCast_ediv] at d1
  rw [← Int.natCast_add, Int.fdiv_eq_ediv_of_nonneg _ (by omega), ← Int.natCast_ediv, Int.natCast_add] at d2
  have q1 : y / p < 10 ^ 14 := Nat.lt_of_le_of_lt (Nat.div_le_self _ _) (by omega)
  have q2 : (y + z) / p < 10 ^ 14 := Nat.lt_of_le_of_lt (Nat.div_le_self _ _) (by omega)
  have s1 := str_nat q1
  have s2 := str_nat q2
  have s3 := str_nat (n := x) (by omega)
  have l1 := num_len13 q1
  have l2 := num_len13 q2
  have l3 := num_len13 (n := x) (by omega)
  generalize TL.numL (y / p) = A at s1 l1
  generalize TL.numL ((y + z) / p) = B at s2 l2
  generalize TL.numL x = C at s3 l3
  have ad1 := add_sT (a := A) (b := [47]) (by show A.length + 1 ≤ _; omega)
  have ad2 := add_sT (a := A ++ [47]) (b := B) (by rw [List.length_append]; show A.length + 1 + _ ≤ _; omega)
  have ad3 := add_sT (a := C) (b := [32]) (by show C.length + 1 ≤ _; omega)
  have ad4 := add_sT (a := C ++ [32]) (b := A ++ [47] ++ B) (by simp only [List.length_append, List.length_cons, List.length_nil]; omega)
  obtain ⟨w2, hw2, hm2⟩ := atI_mem (l := [D.str (sT C), D.str (sT (A ++ [47] ++ B)), D.str (sT (C ++ [32] ++ (A ++ [47] ++ B))), D.str "0"]) (i := f) a1 b1
  obtain ⟨L, rfl, hL⟩ : ∃ L : List Nat, w2 = .str (sT L) ∧ L.length ≤ 60 := by
    simp only [List.mem_cons, List.not_mem_nil, or_false] at hm2
    rcases hm2 with rfl | rfl | rfl | rfl
    · exact ⟨C, rfl, by omega⟩
    · exact ⟨_, rfl, by simp only [List.length_append, List.length_cons, List.length_nil]; omega⟩
    · exact ⟨_, rfl, by simp only [List.length_append, List.length_cons, List.length_nil]; omega⟩
    · exact ⟨[48], by rw [nought_is], by decide⟩
  have ad5 := add_sT (a := sg) (b := L) (by omega)
  rw [← slash] at ad1
  rw [← blank] at ad3
  simp only [ev, List.getElem?_cons_zero, List.getElem?_cons_succ, List.set_cons_zero, List.set_cons_succ, decide_eq_true_eq, Bool.not_eq_true', decide_eq_false_iff_not, Nat.reduceAdd, Bool.not_true, Bool.not_false, Option.map_some, Option.map_none, e1, e2, e3, e4, e5, hw, cm, d1, d2, s1, s2, s3, ad1, ad2, ad3, ad4, hw2, ad5]
  refine ⟨_, _, rfl, ?_, ?_, ?_⟩
  · rw [List.length_append]; omega
  · rw [u.take]; exact h5
  · rw [u.take]; exact u
end Law
set_option Elab.async false
set_option linter.all false
set_option maxRecDepth 100000
set_option maxHeartbeats 4000000
set_option exponentiation.threshold 100000
namespace Law
open PySem PySem.Spec L2 Sz
def joinB : List (List Nat) → List Nat
  | [] => []
  | [x] => x
  | x :: y :: r => x ++ 32 :: joinB (y :: r)
theorem join_sT : ∀ ws : List (List Nat), Txt.join " " (ws.map sT) = sT (joinB ws) := fun ws => by
  rw [TL.join_eq]
  have gen : ∀ ws : List (List Nat), Str.join " " (ws.map sT) = sT (joinB ws) := by
    intro ws
    induction ws with
    | nil => rfl
    | cons x r ih =>
      cases r with
      | nil => rfl
      | cons y r =>
        show sT x ++ (" " : Str) ++ Str.join " " ((y :: r).map sT) = sT (x ++ 32 :: joinB (y :: r))
        rw [ih, show (" " : Str) = sT [32] by decide +kernel, SX.S_cat, SX.S_cat, List.append_assoc]
        rfl
  exact gen ws
def sumN (f : List Nat → Nat) (ws : List (List Nat)) : Nat := (ws.map f).sum
theorem joinB_len : ∀ ws : List (List Nat), (joinB ws).length ≤ sumN List.length ws + ws.length
  | [] => Nat.zero_le _
  | [x] => by show x.length ≤ x.length + 0 + 1; omega
  | x :: y :: r => by
    have := joinB_len (y :: r)
    show (x ++ 32 :: joinB (y :: r)).length ≤ x.length + sumN List.length (y :: r) + ((y :: r).length + 1)
    rw [List.length_append, List.length_cons]
    omega
theorem spl1_hit {acc r : List Nat} : TL.spl [32] 0 acc (32 :: r) = acc :: TL.spl [32] 0 [] r := TL.spl_hit rfl
theorem spl1_miss {acc r : List Nat} {c : Nat} (h : c ≠ 32) : TL.spl [32] 0 acc (c :: r) = TL.spl [32] 0 (acc ++ [c]) r := TL.spl_miss (TL.pre_of_head [] r h)
theorem spl1_len : ∀ {l acc : List Nat}, sumN List.length (TL.spl [32] 0 acc l) + (TL.spl [32] 0 acc l).length = acc.length + l.length + 1
  | [], acc => by
    rw [TL.spl_nil]
    show acc.length + 0 + 1 = acc.length + 0 + 1
    rfl
  | d :: r, acc => by
    by_cases e : d = 32
    · subst e
      have := spl1_len (l := r) (acc := [])
      rw [spl1_hit]
      show acc.length + sumN List.length (TL.spl [32] 0 [] r) + ((TL.spl [32] 0 [] r).length + 1) = acc.length + (r.length + 1) + 1
      rw [List.length_nil] at this
      omega
    · rw [spl1_miss e, spl1_len, List.length_append, List.length_singleton, List.length_cons]
      omega
theorem sll_to {ds : List D} {n : Nat} {i : Int} (hi : i = (n : Int)) : dSl (.lst ds) none (some i) = some (.fr (ds.take n)) := by
  subst hi
  show some (S.fr (cutD ds none (some (n : Int)))) = _
  rw [cutD_to]
theorem sll_from {ds : List D} {n : Nat} {i : Int} (hi : i = (n : Int)) : dSl (.lst ds) (some i) none = some (.fr (ds.drop n)) := by
  subst hi
  show some (S.fr (cutD ds (some (n : Int)) none)) = _
  rw [cutD_from]
theorem any_sT (x : Str) : ∃ l : List Nat, x = sT l ∧ l.length = x.length := by
  refine ⟨x.cps.toList, TL.ext_tl ?_, rfl⟩
  show x.cps.toList = (sT x.cps.toList).cps.toList
  rw [sT_tl]
theorem ix_any {x : Str} {j : Int} {n : Nat} (h0 : 0 ≤ j) (h1 : j < n) (hn : x.length = n) (hz : n ≤ 1000) : ∃ c : Nat, dIx (.str x) (.int j) = some (.val (.str (sT [c]))) := by
  obtain ⟨c, e, _⟩ := atI_mem (l := x.cps.toList) (i := j) h0 (by show j < ((x.length : Nat) : Int); rw [hn]; exact h1)
  refine ⟨c, ?_⟩
  show (if x.length ≤ sizeLine then (atI x.cps.toList j).map fun c => S.val (.str ⟨#[c]⟩) else none) = _
  rw [if_pos (by rw [hn, sizeLine_eq]; omega), e]
  rfl
def replK (y z : Str) (μ1 : Sto) : S → Option R
  | .val d => (match dRepl y z d with
    | some s => some (.ok s, μ1)
    | none => none)
  | _ => none
theorem mRepl_ap {y z : Str} {m : ME} {ρ : En} {μ : Sto} : mRepl y z m ρ μ = andThen (m ρ μ) fun s μ1 => replK y z μ1 s := by
  unfold mRepl replK
  rfl
theorem mRevL_ap {a : ME} {ρ : En} {μ : Sto} : mRevL a ρ μ = andThen (a ρ μ) fun s μ1 => revK μ1 (vw μ1 s) := rfl
theorem revK_lst {μ : Sto} {ds : List D} : revK μ (some (.lst ds)) = some (.ok (.fr ds.reverse), μ) := rfl
theorem join05 {vs : List (List Nat)} (h : sumN List.length vs + vs.length ≤ 16000000) : dJoin (.str " ") (.lst (vs.map fun p => .str (sT p))) = some (.val (.str (sT (joinB vs)))) := by
  have e := join_some (a := " ") (ys := vs.map sT) (by
    rw [List.map_map, List.length_map]
    have e1 : (List.map ((fun x => Str.length x) ∘ sT) vs).sum = sumN List.length vs := by
      unfold sumN
      refine congrArg List.sum (List.map_congr_left fun p _ => ?_)
      exact sT_len
    rw [e1, show (" " : Str).length = 1 by decide +kernel]
    omega)
  rw [List.map_map, join_sT] at e
  exact e
theorem sumN_app {f : List Nat → Nat} {a b : List (List Nat)} : sumN f (a ++ b) = sumN f a + sumN f b := by
  unfold sumN
  rw [List.map_append, List.sum_append]
theorem sumN_rev {f : List Nat → Nat} : ∀ {a : List (List Nat)}, sumN f a.reverse = sumN f a
  | [] => rfl
  | x :: a => by
    rw [List.reverse_cons, sumN_app, sumN_rev]
    unfold sumN
    simp
    try omega
theorem bent_call {l : List Nat} {μ : Sto} {k n : Nat} (h : HandAt μ k n) (hn : n < 2 ^ 180) (hl : l.length ≤ 900) : ∃ (z : List Nat) (μ' : Sto), callF fi_l_bent 2 [] [.cell k, .val (.str (sT l))] [] μ = some (.ok (.val (.str (sT z))), μ') ∧ z.length ≤ 3 * l.length + 10 ∧ HandAt μ' k (n + 3) ∧ Upd k μ μ' := by
  rw [cl_l_bent_2, sem_l_bent]
  unfold c_l_bent
  have len := len_sT (l := l) (by omega)
  obtain ⟨i, μ1, e1, a1, b1, h1, u1⟩ := take_call (m := 10) h (by decide) (by unfold Bd; decide)
  obtain ⟨t, μ2, e2, a2, b2, h2, u2⟩ := take_call (m := (l.length : Int) + 1) h1 (by omega) (by unfold Bd; omega)
  obtain ⟨j, μ3, e3, a3, b3, h3, u3⟩ := take_call (m := 18) h2 (by decide) (by unfold Bd; decide)
  obtain ⟨c, ec⟩ := ix_any (x := "0123456789 /-+.,x\n") (n := 18) a3 b3 (by decide +kernel) (by decide)
  have u := (u1.trans u2).trans u3
  obtain ⟨a, rfl⟩ : ∃ a : Nat, t = (a : Int) := ⟨t.toNat, by omega⟩
  have s1 : dSl (.str (sT l)) none (some (a : Int)) = some (.val (.str (sT (l.take a)))) := sl_to1 (by omega)
  have s2 : dSl (.str (sT l)) (some (a : Int)) none = some (.val (.str (sT (l.drop a)))) := sl_from1 (by omega)
  have s3 : dSl (.str (sT l)) (some ((a : Int) + 1)) none = some (.val (.str (sT (l.drop (a + 1))))) := sl_from1 (k := a + 1) (by omega)
  have l1 : (l.take a).length ≤ l.length := by rw [List.length_take]; omega
  have l2 : (l.drop a).length ≤ l.length := by rw [List.length_drop]; omega
  have l3 : (l.drop (a + 1)).length ≤ l.length := by rw [List.length_drop]; omega
  have ds : dSplit (.str (sT l)) (.str " ") = some (.fr ((TL.spl [32] 0 [] l).map fun p => .str (sT p))) := by
    have e : dSplit (.str (sT l)) (.str " ") = some (.fr ((Txt.split (sT l) " ").map D.str)) := if_pos ⟨by decide +kernel, by rw [sT_len, sizeLine_eq]; omega⟩
    rw [e, blank, SX.split_S (by decide) (by decide), List.map_map]
    rfl
  have sl := spl1_len (l := l) (acc := [])
  rw [List.length_nil] at sl
  generalize TL.spl [32] 0 [] l = ws at ds sl
  have wt : sumN List.length (ws.take 1) + (ws.take 1).length ≤ l.length + 1 ∧ sumN List.length (ws.drop 1) + (ws.drop 1).length ≤ l.length + 1 := by
    have e := congrArg (fun v => sumN List.length v) (List.take_append_drop 1 ws)
    have e2 := congrArg List.length (List.take_append_drop 1 ws)
    rw [List.length_append] at e2
    have e : sumN List.length (ws.take 1 ++ ws.drop 1) = sumN List.length ws := e
    rw [sumN_app] at e
    omega
  have j1 : dJoin (.str " ") (.lst (ws.map fun p => D.str (sT p)).reverse) = some (.val (.str (sT (joinB ws.reverse)))) := by
    rw [← List.map_reverse]
    exact join05 (by rw [sumN_rev, List.length_reverse]; omega)
  have j2 : dJoin (.str " ") (.lst ((ws.map fun p => D.str (sT p)) ++ (ws.map fun p => D.str (sT p)).take 1)) = some (.val (.str (sT (joinB (ws ++ ws.take 1))))) := by
    rw [← List.map_take, ← List.map_append]
    exact join05 (by rw [sumN_app, List.length_append]; omega)
  have j3 : dJoin (.str " ") (.lst ((ws.map fun p => D.str (sT p)).drop 1)) = some (.val (.str (sT (joinB (ws.drop 1))))) := by
    rw [← List.map_drop]
    exact join05 (by omega)
  have n1 := joinB_len ws.reverse
  rw [sumN_rev, List.length_reverse] at n1
  have n2 := joinB_len (ws ++ ws.take 1)
  rw [sumN_app, List.length_append] at n2
  have n3 := joinB_len (ws.drop 1)
  have t1 := sll_to (ds := ws.map fun p => D.str (sT p)) (n := 1) (i := 1) rfl
  have t2 := sll_from (ds := ws.map fun p => D.str (sT p)) (n := 1) (i := 1) rfl
  have al := Sz.add_ll (a := ws.map fun p => D.str (sT p)) (b := (ws.map fun p => D.str (sT p)).take 1) (by rw [List.length_take, List.length_map]; omega)
  generalize hA : joinB ws.reverse = A at j1 n1
  generalize hB : joinB (ws ++ ws.take 1) = B at j2 n2
  generalize hC : joinB (ws.drop 1) = C at j3 n3
  generalize (ws.map fun p => D.str (sT p)) = W at ds j1 j2 j3 t1 t2 al
  obtain ⟨r, er, lr⟩ := any_sT (Txt.replace (sT l) "/" "0/")
  have lr2 := TK.replace_len (sT l) "/" "0/"
  rw [sT_len, show ("0/" : Str).length = 2 by decide +kernel] at lr2
  have lr2 : r.length ≤ l.length + (l.length + 1) * 2 := by rw [lr]; exact lr2
  have rp : ∀ ν : Sto, replK "/" "0/" ν (.val (.str (sT l))) = some (.ok (.val (.str (sT r))), ν) := fun ν => by
    have e : dRepl "/" "0/" (.str (sT l)) = some (.val (.str (Txt.replace (sT l) "/" "0/"))) := if_pos (by rw [sT_len, show ("0/" : Str).length = 2 by decide +kernel]; omega)
    rw [er] at e
    show (match dRepl "/" "0/" (.str (sT l)) with
      | some s => some (Except.ok s, ν)
      | none => none) = _
    rw [e]
  have p1 := add_sT (a := l.take a) (b := [c]) (by show _ + 1 ≤ _; omega)
  have p2 := add_sT (a := l.take a ++ [c]) (b := l.drop a) (by rw [List.length_append]; show _ + 1 + _ ≤ _; omega)
  have p3 := add_sT (a := l.take a ++ [c]) (b := l.drop (a + 1)) (by rw [List.length_append]; show _ + 1 + _ ≤ _; omega)
  have p4 := add_sT (a := l.take a) (b := l.drop (a + 1)) (by omega)
  have p5 := add_sT (a := [48]) (b := l) (by show 1 + _ ≤ _; omega)
  have p6 := add_sT (a := [45]) (b := l) (by show 1 + _ ≤ _; omega)
  have p7 := add_sT (a := l) (b := [47, 49]) (by show _ + 2 ≤ _; omega)
  have p8 := add_sT (a := r) (b := [48]) (by show _ + 1 ≤ _; omega)
  rw [← nought_is] at p5 p8
  rw [← minus] at p6
  have e71 : sT [47, 49] = ("/1" : Str) := by decide +kernel
  rw [e71] at p7
  have a9 := Sz.add_ll (a := [D.str (sT (l.take a ++ [c] ++ l.drop a)), .str (sT (l.take a ++ [c] ++ l.drop (a + 1))), .str (sT (l.take a ++ l.drop (a + 1))), .str (sT (48 :: l))]) (b := [D.str (sT A), .str (sT B), .str (sT C), .str (sT (45 :: l)), .str (sT (l ++ [47, 49]))]) (show 9 ≤ 1000 by decide)
  have a10 := Sz.add_ll (a := [D.str (sT (l.take a ++ [c] ++ l.drop a)), .str (sT (l.take a ++ [c] ++ l.drop (a + 1))), .str (sT (l.take a ++ l.drop (a + 1))), .str (sT (48 :: l)), .str (sT A), .str (sT B), .str (sT C), .str (sT (45 :: l)), .str (sT (l ++ [47, 49]))]) (b := [D.str (sT (r ++ [48]))]) (show 10 ≤ 1000 by decide)
  obtain ⟨w, hw, hm⟩ := atI_mem (l := [D.str (sT (l.take a ++ [c] ++ l.drop a)), .str (sT (l.take a ++ [c] ++ l.drop (a + 1))), .str (sT (l.take a ++ l.drop (a + 1))), .str (sT (48 :: l)), .str (sT A), .str (sT B), .str (sT C), .str (sT (45 :: l)), .str (sT (l ++ [47, 49])), .str (sT (r ++ [48]))]) (i := i) a1 b1
  have ix : dIxV (.lst [D.str (sT (l.take a ++ [c] ++ l.drop a)), .str (sT (l.take a ++ [c] ++ l.drop (a + 1))), .str (sT (l.take a ++ l.drop (a + 1))), .str (sT (48 :: l)), .str (sT A), .str (sT B), .str (sT C), .str (sT (45 :: l)), .str (sT (l ++ [47, 49])), .str (sT (r ++ [48]))]) (.int i) = some (.val w) := by
    show (atI _ i).map S.val = _
    rw [hw]
    rfl
  obtain ⟨z, rfl, lz⟩ : ∃ z : List Nat, w = .str (sT z) ∧ z.length ≤ 3 * l.length + 10 := by
    simp only [List.mem_cons, List.not_mem_nil, or_false] at hm
    rcases hm with rfl | rfl | rfl | rfl | rfl | rfl | rfl | rfl | rfl | rfl
    · exact ⟨_, rfl, by simp only [List.length_append, List.length_cons, List.length_nil]; omega⟩
    · exact ⟨_, rfl, by simp only [List.length_append, List.length_cons, List.length_nil]; omega⟩
    · exact ⟨_, rfl, by simp only [List.length_append, List.length_cons, List.length_nil]; omega⟩
    · exact ⟨_, rfl, by simp only [List.length_append, List.length_cons, List.length_nil]; omega⟩
    · exact ⟨_, rfl, by omega⟩
    · exact ⟨_, rfl, by omega⟩
    · exact ⟨_, rfl, by omega⟩
    · exact ⟨_, rfl, by simp only [List.length_append, List.length_cons, List.length_nil]; omega⟩
    · exact ⟨_, rfl, by simp only [List.length_append, List.length_cons, List.length_nil]; omega⟩
    · exact ⟨_, rfl, by simp only [List.length_append, List.length_cons, List.length_nil]; omega⟩
  simp only [ev, List.getElem?_cons_zero, List.getElem?_cons_succ, List.set_cons_zero, List.set_cons_succ, decide_eq_true_eq, Bool.not_eq_true', decide_eq_false_iff_not, Nat.reduceAdd, Bool.not_true, Bool.not_false, Option.map_some, Option.map_none, len, e1, e2, e3, ec, ds, s1, s2, s3, p1, p2, p3, p4, p5, mRevL_ap, revK_lst, j1, j2, j3, t1, t2, al, p6, p7, a9, mRepl_ap, rp, p8, a10, ix, List.cons_append, List.nil_append]
  refine ⟨_, _, rfl, lz, ?_, ?_⟩
  · rw [u.take]; exact h3
  · rw [u.take]; exact u
end Law
set_option Elab.async false
set_option linter.all false
set_option maxRecDepth 100000
set_option maxHeartbeats 4000000
set_option exponentiation.threshold 100000
namespace Law
open PySem PySem.Spec L2 Sz
theorem bdl {n : Nat} {i : Int} (h : i.natAbs < 2 ^ n) : Bd n i := h
/-- 7, or a tuple or a list with so many about it -/
inductive Deep : Nat → D → Prop
  | int : Deep 0 (.int 7)
  | tup (n : Nat) (ds : List D) : Deep (n + 1) (.tup ds)
  | lst (n : Nat) (ds : List D) : Deep (n + 1) (.lst ds)
theorem nest_step {d : D} {x : S} {i : Int} {n : Nat} {μ : Sto} : ∃ e, Deep (n + 1) e ∧ c_l_nest_b1 [some x, some (.val d), some (.val (.int i))] μ = some (.nx, [some x, some (.val e), some (.val (.int i))], μ) := by
  have m := mod_ii (i := i) (j := 3) (by decide)
  have r := fmod_range (i := i) (m := 3) (by decide)
  generalize i.fmod 3 = j at m r
  unfold c_l_nest_b1
  have hj : j = 0 ∨ j = 1 ∨ j = 2 := by omega
  rcases hj with rfl | rfl | rfl
  · refine ⟨.tup [d], .tup _ _, ?_⟩
    simp only [ev, List.getElem?_cons_zero, List.getElem?_cons_succ, List.set_cons_zero, List.set_cons_succ, decide_eq_true_eq, Bool.not_eq_true', decide_eq_false_iff_not, Nat.reduceAdd, Bool.not_true, Bool.not_false, Option.map_some, Option.map_none, m]
  · refine ⟨.lst [d], .lst _ _, ?_⟩
    simp only [ev, List.getElem?_cons_zero, List.getElem?_cons_succ, List.set_cons_zero, List.set_cons_succ, decide_eq_true_eq, Bool.not_eq_true', decide_eq_false_iff_not, Nat.reduceAdd, Bool.not_true, Bool.not_false, Option.map_some, Option.map_none, m]
  · refine ⟨.tup [d, .int 1], .tup _ _, ?_⟩
    simp only [ev, List.getElem?_cons_zero, List.getElem?_cons_succ, List.set_cons_zero, List.set_cons_succ, decide_eq_true_eq, Bool.not_eq_true', decide_eq_false_iff_not, Nat.reduceAdd, Bool.not_true, Bool.not_false, Option.map_some, Option.map_none, m]
theorem nest_call {n : Int} {μ : Sto} (h1 : n.natAbs ≤ 1000) : ∃ d, Deep n.toNat d ∧ callF fi_l_nest 1 [] [.val (.int n)] [] μ = some (.ok (.val d), μ) := by
  rw [cl_l_nest_1, sem_l_nest]
  unfold c_l_nest
  have hr := iRange1_eq (a := mVar 0) (ρ := [some (.val (.int n)), some (.val (.int 7)), none]) (μ := μ) (μ1 := μ) (j := n) (by simp only [ev, List.getElem?_cons_zero, List.getElem?_cons_succ, List.set_cons_zero, List.set_cons_succ, decide_eq_true_eq, Bool.not_eq_true', decide_eq_false_iff_not, Nat.reduceAdd, Bool.not_true, Bool.not_false, Option.map_some, Option.map_none]) (inR_of (by omega))
  obtain ⟨ρ', μ', e, hI⟩ := floop_ix (t := gNm 2 false) (b := c_l_nest_b1) (fun j ρ ν => ν = μ ∧ ∃ d x, Deep j d ∧ ρ = [some (.val (.int n)), some (.val d), x]) (rangeD 0 n.toNat) 0 [some (.val (.int n)), some (.val (.int 7)), none] μ (fun i x ρ ν hx hI => by
    obtain ⟨j, _, rfl⟩ := rangeD_mem' (List.mem_of_getElem? hx)
    obtain ⟨rfl, d, y, hd, rfl⟩ := hI
    obtain ⟨e, he, hs⟩ := nest_step (d := d) (x := .val (.int n)) (i := 0 + (j : Int)) (n := 0 + i) (μ := ν)
    exact ⟨_, _, rfl, _, _, hs, rfl, e, _, he, rfl⟩) ⟨rfl, .int 7, none, .int, rfl⟩
  obtain ⟨rfl, d, x, hd, rfl⟩ := hI
  rw [Nat.zero_add, rangeD_len] at hd
  refine ⟨d, hd, ?_⟩
  simp only [ev, List.getElem?_cons_zero, List.getElem?_cons_succ, List.set_cons_zero, List.set_cons_succ, decide_eq_true_eq, Bool.not_eq_true', decide_eq_false_iff_not, Nat.reduceAdd, Bool.not_true, Bool.not_false, Option.map_some, Option.map_none, hr, e, List.take_length]
/-- a thing that is no whole number, no text, no object -/
inductive Thg : D → Prop
  | non : Thg .non
  | bl (b : Bool) : Thg (.bl b)
  | tup (ds : List D) : Thg (.tup ds)
  | lst (ds : List D) : Thg (.lst ds)
  | dic (ks : List Key) (ds : List D) : Thg (.dic ks ds)
theorem Deep.thg {n : Nat} {d : D} (h : Deep n d) (hn : 1 ≤ n) : Thg d := by
  cases h with
  | int => omega
  | tup _ ds => exact .tup ds
  | lst _ ds => exact .lst ds
theorem any_thing_call {μ : Sto} {k n : Nat} (h : HandAt μ k n) (hn : n < 2 ^ 190) : ∃ d μ', callF fi_l_any_thing 1 [] [.cell k] [] μ = some (.ok (.val d), μ') ∧ Thg d ∧ HandAt μ' k (n + 2) ∧ Upd k μ μ' := by
  rw [cl_l_any_thing_1, sem_l_any_thing]
  unfold c_l_any_thing
  obtain ⟨i, μ1, e1, a1, b1, h1, u1⟩ := take_call (m := 28) h (by decide) (bdl (by decide))
  obtain ⟨j, μ2, e2, a2, b2, h2, u2⟩ := take_call (m := 15) h1 (by decide) (bdl (by decide))
  obtain ⟨d1, q1, w1⟩ := nest_call (n := 30) (μ := μ) (by decide)
  obtain ⟨d2, q2, w2⟩ := nest_call (n := 2 + i) (μ := μ1) (by omega)
  have t1 := q1.thg (by decide)
  have t2 := q2.thg (by omega)
  have fl : ∀ (a b c d e f g h i j k l m : D) (ν : Sto), finL [.val a, .val b, .val c, .val d, .val e, .val f, .val g, .val h, .val i, .val j, .val k, .val l, .val m] ν = some (.ok (.fr [a, b, c, d, e, f, g, h, i, j, k, l, m]), ν) := fun _ _ _ _ _ _ _ _ _ _ _ _ _ ν => finL_vals rfl (by simp)
  have ad := Sz.add_ll (a := [D.non, .bl true, .bl false, .tup [], .tup [.int 1], .lst [], .lst [.int 1], .dic [] [], .dic [.inl 1] [.int 2], .lst [.tup [.int 1]], .tup [.int 1, .int 2], .tup [.non, .int 3], .lst [.lst [.int 1], .int 2]]) (b := [d1, d2]) (show 15 ≤ 1000 by decide)
  obtain ⟨w, hw, hm⟩ := atI_mem (l := [D.non, .bl true, .bl false, .tup [], .tup [.int 1], .lst [], .lst [.int 1], .dic [] [], .dic [.inl 1] [.int 2], .lst [.tup [.int 1]], .tup [.int 1, .int 2], .tup [.non, .int 3], .lst [.lst [.int 1], .int 2]] ++ [d1, d2]) (i := j) a2 b2
  have ht : Thg w := by
    rw [List.mem_append] at hm
    simp only [List.mem_cons, List.not_mem_nil, or_false] at hm
    rcases hm with (rfl | rfl | rfl | rfl | rfl | rfl | rfl | rfl | rfl | rfl | rfl | rfl | rfl) | rfl | rfl
    · exact .non
    · exact .bl _
    · exact .bl _
    · exact .tup _
    · exact .tup _
    · exact .lst _
    · exact .lst _
    · exact .dic _ _
    · exact .dic _ _
    · exact .lst _
    · exact .tup _
    · exact .tup _
    · exact .lst _
    · exact t1
    · exact t2
  have f0 : ∀ ν : Sto, finT [] ν = some (.ok (.val (.tup [])), ν) := fun ν => rfl
  have g0 : ∀ ν : Sto, finL [] ν = some (.ok (.fr []), ν) := fun ν => rfl
  simp only [ev, List.getElem?_cons_zero, List.getElem?_cons_succ, List.set_cons_zero, List.set_cons_succ, decide_eq_true_eq, Bool.not_eq_true', decide_eq_false_iff_not, Nat.reduceAdd, Bool.not_true, Bool.not_false, Option.map_some, Option.map_none, f0, g0, fl, w1, e1, w2, ad, e2, hw]
  refine ⟨w, _, rfl, ht, ?_, ?_⟩
  · rw [(u1.trans u2).take]; exact h2
  · rw [(u1.trans u2).take]; exact u1.trans u2
def Sl5 (ns : List Int) (ρ : En) : Prop := ∃ s1 s2 s3 s4 s5 s6 s7 s8 : Option S, ρ = [some (.val (.scr ns)), s1, s2, s3, s4, s5, s6, s7, s8]
theorem lit_s7 : ("/7" : Str) = sT [47, 55] := by decide +kernel
theorem lit_1s : ("1/" : Str) = sT [49, 47] := by decide +kernel
theorem lit_b12 : (" 1/2" : Str) = sT [32, 49, 47, 50] := by decide +kernel
theorem lit_31 : ("3 1/" : Str) = sT [51, 32, 49, 47] := by decide +kernel
theorem long_step {l : List Nat} {ns : List Int} {μ : Sto} {s2 s3 s4 s5 s6 s7 s8 : Option S} (hl : l.length ≤ 10000) : ∃ ρ2, c_law_b1 [some (.val (.scr ns)), some (.val (.str (sT l))), s2, s3, s4, s5, s6, s7, s8] μ = some (.nx, ρ2, μ) ∧ Sl5 ns ρ2 := by
  unfold c_law_b1
  have p1 : dAdd (.str "-") (.str (sT l)) = some (.val (.str (sT ([45] ++ l)))) := by rw [minus]; exact add_sT (by show 1 + _ ≤ _; omega)
  have p2 : dAdd (.str (sT l)) (.str "/7") = some (.val (.str (sT (l ++ [47, 55])))) := by rw [lit_s7]; exact add_sT (by show _ + 2 ≤ _; omega)
  have p3 : dAdd (.str "1/") (.str (sT l)) = some (.val (.str (sT ([49, 47] ++ l)))) := by rw [lit_1s]; exact add_sT (by show 2 + _ ≤ _; omega)
  have p4 : dAdd (.str (sT l)) (.str " 1/2") = some (.val (.str (sT (l ++ [32, 49, 47, 50])))) := by rw [lit_b12]; exact add_sT (by show _ + 4 ≤ _; omega)
  have p5 : dAdd (.str "3 1/") (.str (sT l)) = some (.val (.str (sT ([51, 32, 49, 47] ++ l)))) := by rw [lit_31]; exact add_sT (by show 4 + _ ≤ _; omega)
  generalize hA : [45] ++ l = A at p1
  generalize hB : l ++ [47, 55] = B at p2
  generalize hC : [49, 47] ++ l = C at p3
  generalize hD : l ++ [32, 49, 47, 50] = D4 at p4
  generalize hE : [51, 32, 49, 47] ++ l = E5 at p5
  have la : A.length ≤ 20000 := by rw [← hA, List.length_append]; show 1 + _ ≤ _; omega
  have lb : B.length ≤ 20000 := by rw [← hB, List.length_append]; show _ + 2 ≤ _; omega
  have lc : C.length ≤ 20000 := by rw [← hC, List.length_append]; show 2 + _ ≤ _; omega
  have ld : D4.length ≤ 20000 := by rw [← hD, List.length_append]; show _ + 4 ≤ _; omega
  have le : E5.length ≤ 20000 := by rw [← hE, List.length_append]; show 4 + _ ≤ _; omega
  have hc : mComp (iVal (mVar 2)) (gNm 3 false) tTrue (mCallF fi_l_right 1 [] [mVar 3] []) [3] [some (.val (.scr ns)), some (.val (.str (sT l))), some (.val (.lst [.str (sT l), .str (sT A), .str (sT B), .str (sT C), .str (sT D4), .str (sT E5)])), s3, s4, s5, s6, s7, s8] μ = some (.ok (.fr [.bl true, .bl true, .bl true, .bl true, .bl true, .bl true]), μ) := by
    refine comp_mapL (l := [l, A, B, C, D4, E5]) (fun p => .str (sT p)) (fun _ => .bl true) (by simp only [ev, List.getElem?_cons_zero, List.getElem?_cons_succ, List.set_cons_zero, List.set_cons_succ, decide_eq_true_eq, Bool.not_eq_true', decide_eq_false_iff_not, Nat.reduceAdd, Bool.not_true, Bool.not_false, Option.map_some, Option.map_none]; rfl) (show 6 ≤ 1000 by decide) fun p hp ν => ⟨_, rfl, ?_⟩
    have hl2 : p.length ≤ 16000000 := by
      simp only [List.mem_cons, List.not_mem_nil, or_false] at hp
      rcases hp with rfl | rfl | rfl | rfl | rfl | rfl <;> omega
    have e := right05 (μ := ν) hl2
    simp only [ev, List.getElem?_cons_zero, List.getElem?_cons_succ, List.set_cons_zero, List.set_cons_succ, decide_eq_true_eq, Bool.not_eq_true', decide_eq_false_iff_not, Nat.reduceAdd, Bool.not_true, Bool.not_false, Option.map_some, Option.map_none, wipeE, e]
  have al : bAll [.lst [.bl true, .bl true, .bl true, .bl true, .bl true, .bl true]] = some (.val (.bl true)) := rfl
  simp only [ev, List.getElem?_cons_zero, List.getElem?_cons_succ, List.set_cons_zero, List.set_cons_succ, decide_eq_true_eq, Bool.not_eq_true', decide_eq_false_iff_not, Nat.reduceAdd, Bool.not_true, Bool.not_false, Option.map_some, Option.map_none, p1, p2, p3, p4, p5, hc, al]
  exact ⟨_, rfl, _, _, _, _, _, _, _, _, rfl⟩
theorem isi_thing {d : D} (h : Thg d) : bIsi nKit nKit subK [d, .ty "str"] = some (.val (.bl false)) := by cases h <;> rfl
theorem turn_step {l : List Nat} {ns : List Int} {μ : Sto} {kh n : Nat} {s1 s2 s4 s6 s7 s8 : Option S} (hl : l.length ≤ 100) (H : HandAt μ kh n) (hn : n < 2 ^ 100) :
    ∃ s8' μ', c_law_b2 [some (.val (.scr ns)), s1, s2, some (.val (.str (sT l))), s4, some (.cell kh), s6, s7, s8] μ = some (.nx, [some (.val (.scr ns)), s1, s2, some (.val (.str (sT l))), s4, some (.cell kh), s6, s7, s8'], μ') ∧ HandAt μ' kh (n + 6) := by
  unfold c_law_b2
  obtain ⟨z, μ1, e1, lz, H1, u1⟩ := bent_call H (by omega) (l := l) (by omega)
  obtain ⟨y, μ2, e2, ly, H2, u2⟩ := bent_call H1 (by omega) (l := z) (by omega)
  have r1 := fun ν : Sto => right05 (l := z) (μ := ν) (by omega)
  have r2 := fun ν : Sto => right05 (l := y) (μ := ν) (by omega)
  simp only [ev, List.getElem?_cons_zero, List.getElem?_cons_succ, List.set_cons_zero, List.set_cons_succ, decide_eq_true_eq, Bool.not_eq_true', decide_eq_false_iff_not, Nat.reduceAdd, Bool.not_true, Bool.not_false, Option.map_some, Option.map_none, e1, r1, e2, r2]
  exact ⟨_, _, rfl, H2.mono (by omega)⟩
theorem row_step {i : Nat} {ns : List Int} {ρ : En} {μ : Sto} (h : Sl5 ns ρ) : ∃ ρ1 μ1, gNm 4 false (.val (.int (i : Int))) ρ μ = some (ρ1, μ1) ∧ ∃ ρ2 μ2, c_law_b3 ρ1 μ1 = some (.nx, ρ2, μ2) ∧ Sl5 ns ρ2 := by
  obtain ⟨s1, s2, s3, s4, s5, s6, s7, s8, rfl⟩ := h
  refine ⟨_, _, rfl, ?_⟩
  unfold c_law_b3
  obtain ⟨h0, h1, e1, r1, r2⟩ := hand_call (μ := μ) (ns := ns) (k := i)
  have H0 : HandAt (μ ++ [.lst [.int h0, .int h1, .int 0]]) μ.length 0 := ⟨h0, h1, 0, get_end, r1, r2, by omega, by omega⟩
  obtain ⟨d, μ1, e2, td, H1, u1⟩ := any_thing_call H0 (by decide)
  obtain ⟨l, μ2, e3, hl, H2, u2⟩ := text_of_call H1 (by decide)
  obtain ⟨t3, u3, m3, i3⟩ := make_ex (n := 3) (a := 1) (b := 2) (by decide) (by unfold Bd; decide) (by unfold Bd; decide)
  obtain ⟨j, μ3, e4, a4, b4, H3, u4⟩ := take_call (m := 5) H2 (by decide) (by unfold Bd; decide)
  obtain ⟨w, hw, hm⟩ := atI_mem (l := [d, Ob t3 u3, .int 5, .tup [.str (sT l)], .lst [.str (sT l)]]) (i := j) a4 b4
  have hS : bIsi nKit nKit subK [w, .ty "str"] = some (.val (.bl false)) := by
    simp only [List.mem_cons, List.not_mem_nil, or_false] at hm
    rcases hm with rfl | rfl | rfl | rfl | rfl
    · exact isi_thing td
    · rfl
    · rfl
    · rfl
    · rfl
  have rg := fun ν : Sto => right05 (l := l) (μ := ν) (by omega)
  have rf := fun ν : Sto => refused05 (μ := ν) hS
  have hr := iRange1_eq (a := mK (.int 8)) (ρ := [some (.val (.scr ns)), s1, s2, some (.val (.str (sT l))), some (.val (.int (i : Int))), some (.cell μ.length), some (.val w), s7, s8]) (μ := μ3) (μ1 := μ3) (j := 8) (by simp only [ev, List.getElem?_cons_zero, List.getElem?_cons_succ, List.set_cons_zero, List.set_cons_succ, decide_eq_true_eq, Bool.not_eq_true', decide_eq_false_iff_not, Nat.reduceAdd, Bool.not_true, Bool.not_false, Option.map_some, Option.map_none]) (inR_of (by decide))
  obtain ⟨ρ', μ', e, hI⟩ := floop_ix (t := gNm 7 false) (b := c_law_b2) (fun j ρ ν => ∃ s7 s8, ρ = [some (.val (.scr ns)), s1, s2, some (.val (.str (sT l))), some (.val (.int (i : Int))), some (.cell μ.length), some (.val w), s7, s8] ∧ HandAt ν μ.length (14 + 6 * j)) (rangeD 0 (8 : Int).toNat) 0 [some (.val (.scr ns)), s1, s2, some (.val (.str (sT l))), some (.val (.int (i : Int))), some (.cell μ.length), some (.val w), s7, s8] μ3 (fun q x ρ ν hx hI => by
    have hq : q < 8 := by
      have := (List.getElem?_eq_some_iff.mp hx).1
      rw [rangeD_len] at this
      exact this
    obtain ⟨y7, y8, rfl, hH⟩ := hI
    obtain ⟨z, _, rfl⟩ := rangeD_mem' (List.mem_of_getElem? hx)
    obtain ⟨s8', ν', e5, H5⟩ := turn_step (ns := ns) (s1 := s1) (s2 := s2) (s4 := some (.val (.int (i : Int)))) (s6 := some (.val w)) (s7 := some (.val (.int (0 + (z : Int))))) (s8 := y8) hl hH (by omega)
    exact ⟨_, _, rfl, _, _, e5, _, _, rfl, H5.mono (by omega)⟩) ⟨_, _, rfl, H3.mono (by omega)⟩
  obtain ⟨y7, y8, rfl, _⟩ := hI
  simp only [ev, List.getElem?_cons_zero, List.getElem?_cons_succ, List.set_cons_zero, List.set_cons_succ, decide_eq_true_eq, Bool.not_eq_true', decide_eq_false_iff_not, Nat.reduceAdd, Bool.not_true, Bool.not_false, Option.map_some, Option.map_none, e1, e2, e3, m3, e4, hw, rg, rf, hr, e]
  exact ⟨_, _, rfl, _, _, _, _, _, _, _, _, rfl⟩
theorem law_holds (ns : List Int) (hl : ns.length ≤ 63) : fi_law.sem [.val (.scr ns)] [] = some (.ok (.val (.bl true)), []) := by
  rw [sem_law]
  unfold c_law
  have w1 := rep7 (n := 4301) (by decide)
  have w2 := rep0 (n := 4301) (by decide)
  have w3 := rep0 (n := 5000) (by decide)
  have w1 : dMulR (.str "7") (.int 4301) = some (.val (.str (sT (List.replicate 4301 55)))) := w1
  have w2 : dMulR (.str "0") (.int 4301) = some (.val (.str (sT (List.replicate 4301 48)))) := w2
  have w3 : dMulR (.str "0") (.int 5000) = some (.val (.str (sT (List.replicate 5000 48)))) := w3
  have l1 : (List.replicate 4301 55).length = 4301 := List.length_replicate
  have l2 : (List.replicate 4301 48).length = 4301 := List.length_replicate
  have l3 : (List.replicate 5000 48).length = 5000 := List.length_replicate
  generalize List.replicate 4301 55 = A at *
  generalize List.replicate 4301 48 = B at *
  generalize List.replicate 5000 48 = C at *
  have p1 : dAdd (.str (sT B)) (.str "7") = some (.val (.str (sT (B ++ [55])))) := by
    rw [show ("7" : Str) = sT [55] by decide +kernel]
    exact add_sT (by show _ + 1 ≤ _; omega)
  have p2 : dAdd (.str "1") (.str (sT C)) = some (.val (.str (sT ([49] ++ C)))) := by
    rw [one_is]
    exact add_sT (by show 1 + _ ≤ _; omega)
  have l4 : (B ++ [55]).length ≤ 10000 := by rw [List.length_append]; show _ + 1 ≤ _; omega
  have l5 : ([49] ++ C).length ≤ 10000 := by rw [List.length_append]; show 1 + _ ≤ _; omega
  generalize B ++ [55] = B2 at *
  generalize [49] ++ C = C2 at *
  obtain ⟨ρ1, μ1, e1, I1⟩ := floop_inv (t := gNm 1 false) (b := c_law_b1) (fun ρ ν => Sl5 ns ρ ∧ ν = []) (fun x => ∃ l : List Nat, x = .str (sT l) ∧ l.length ≤ 10000) (fun x ρ ν hx hI => by
      obtain ⟨l, rfl, hl2⟩ := hx
      obtain ⟨⟨s1, s2, s3, s4, s5, s6, s7, s8, rfl⟩, rfl⟩ := hI
      obtain ⟨ρ2, q1, q2⟩ := long_step (ns := ns) (μ := []) (s2 := s2) (s3 := s3) (s4 := s4) (s5 := s5) (s6 := s6) (s7 := s7) (s8 := s8) hl2
      exact ⟨_, _, rfl, _, _, q1, q2, rfl⟩) [.str (sT A), .str (sT B), .str (sT B2), .str (sT C2)] [some (.val (.scr ns)), none, none, none, none, none, none, none, none] [] (fun d hd => by
      simp only [List.mem_cons, List.not_mem_nil, or_false] at hd
      rcases hd with rfl | rfl | rfl | rfl
      · exact ⟨_, rfl, by omega⟩
      · exact ⟨_, rfl, by omega⟩
      · exact ⟨_, rfl, l4⟩
      · exact ⟨_, rfl, l5⟩) ⟨⟨_, _, _, _, _, _, _, _, rfl⟩, rfl⟩
  obtain ⟨⟨s1, s2, s3, s4, s5, s6, s7, s8, rfl⟩, rfl⟩ := I1
  have hr := iRange1_eq (a := mOp2 dAdd (mK (.int 2)) (mCallB bMin [mK (.int 8), mCallB bLen [mVar 0]])) (ρ := [some (.val (.scr ns)), s1, s2, s3, s4, s5, s6, s7, s8]) (μ := []) (μ1 := []) (j := 2 + if (ns.length : Int) < 8 then (ns.length : Int) else 8) (by simp only [ev, List.getElem?_cons_zero, List.getElem?_cons_succ, List.set_cons_zero, List.set_cons_succ, decide_eq_true_eq, Bool.not_eq_true', decide_eq_false_iff_not, Nat.reduceAdd, Bool.not_true, Bool.not_false, Option.map_some, Option.map_none]) (inR_of (by split <;> omega))
  obtain ⟨ρ', μ', e, hI⟩ := floop_inv (t := gNm 4 false) (b := c_law_b3) (fun ρ _ => Sl5 ns ρ) (fun x => ∃ i : Nat, x = .int (i : Int)) (fun x ρ ν hx hI => by
      obtain ⟨i, rfl⟩ := hx
      exact row_step hI) (rangeD 0 (2 + if (ns.length : Int) < 8 then (ns.length : Int) else 8).toNat) [some (.val (.scr ns)), s1, s2, s3, s4, s5, s6, s7, s8] [] (fun d hd => by
      obtain ⟨i, _, rfl⟩ := rangeD_mem' hd
      exact ⟨i, by rw [Int.zero_add]⟩) ⟨_, _, _, _, _, _, _, _, rfl⟩
  simp only [ev, List.getElem?_cons_zero, List.getElem?_cons_succ, List.set_cons_zero, List.set_cons_succ, decide_eq_true_eq, Bool.not_eq_true', decide_eq_false_iff_not, Nat.reduceAdd, Bool.not_true, Bool.not_false, Option.map_some, Option.map_none, w1, w2, w3, p1, p2, e1, hr, e]
  rfl
end Law
theorem PySem.Challenge.cw_sizeladders_k05_measures_read_holds : PySem.Challenge.rw_sizeladders_k05_measures_read.Holds := by
  exact Law.whole Law.law_holds
