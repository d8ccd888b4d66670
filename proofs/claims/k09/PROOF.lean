import PyProof.Rows.All
import Wide.All
import OpenK.AllK
import Wide.FinOn
import HandS.TupLe
import HandS.Words
import HandS.HeadHook1
import HandS.HeadHook2
import HandS.Head0
import HandS.Head1
import HandS.Head2
import PySem.Challenge.RW_latehelm_k09_next_situations
import KE.KStateDown
import Lean
import PyProof.EqAt
import PyProof.EqKinds
import PyProof.TupleCall
import KE.KDictKeyed
import KE.SortData
import HandS.ForMost
import HandS.Exc
import HandS.TryOnly
import HandS.ExcOwn
import HandS.Star
import HandS.Property
import HandS.Lambda
import HandS.Flow
import HandS.TupAny
import HandS.TupMul
import HandS.Deep
import HandS.IsInst
import HandS.Iter
import HandS.Style
import HandS.WordsExc
import HandS.Defaults
import KE.KDictWalk
import HandS.SetFor
import HandS.Sort
import PyProof.ReprRoads
import OpenK.KOps
import OpenK.KMeth
import HandS.SlotsOwn
import HandS.Ends
import HandS.Zip
import KE.DataMinMax
import PyProof.P3Eq
import KE.KDictCopyH
import KE.KDictSum
import KE.KDictItemsList
import HandS.DictTup
import HandS.MakeKw
import KE.KDictList
import HandS.FStr
set_option Elab.async false
set_option linter.all false
set_option maxRecDepth 100000
set_option maxHeartbeats 2000000
namespace L2
namespace MP
open PySem PySem.Spec PyProof.Rows
/-! ### what is asked of the written part, by one look -/
/-- names of attributes -/
inductive Fld where
  | rows | marks | numbers | ownPlant | ownNews | past | ownMost
  deriving DecidableEq
def Fld.nm : Fld → Str
  | .rows => "rows" | .marks => "marks" | .numbers => "numbers" | .ownPlant => "own_plant" | .ownNews => "own_news" | .past => "past" | .ownMost => "own_most"
theorem Fld.nm_inj : ∀ {a b : Fld}, a.nm = b.nm → a = b := by
  intro a b
  cases a <;> cases b <;> first | (intro _; rfl) | (intro h; exact absurd h (by decide +kernel))
/-- the built-in classes that the program names -/
inductive TyN where
  | int | bool | str | tuple | list | dict
  deriving DecidableEq
def TyN.nm : TyN → String
  | .int => "int" | .bool => "bool" | .str => "str" | .tuple => "tuple" | .list => "list" | .dict => "dict"
inductive TC where
  | b (t : TyN) | c (n : Nat) | nt
  deriving DecidableEq
inductive TN where
  | b (t : TyN) | c (x : Str) | nt
def TN.v (K : PySem.W.Frag) : TN → Value
  | .b t => .type t.nm
  | .c x => .ref (He.ga K x)
  | .nt => .type "NoneType"
inductive Fy where
  | he (f : He.Fa)
  | dun (x y m : Str)
  | prop (x y p : Str)
  | kit (t c : TN) (b : Bool)
  | insx (x : Str)
  | sf (x : Str)
  | tup (x : Str) (vs : List He.Dv)
  | etup (p : Str × Option Str) (i : Nat)
def pAd (K : PySem.W.Frag) (C : Addr) (p : Str) : Addr := match PySem.W.findIn K (.ref C) p with
  | some (some (.ref a)) => a
  | _ => 0
def gAd (K : PySem.W.Frag) (C : Addr) (p : Str) : Addr := match PySem.W.recIn K (pAd K C p) "property" with
  | some (.ref a :: _) => a
  | _ => 0
def etB (K : PySem.W.Frag) (a : Addr) : Bool := match K.lookup a with
  | some ⟨.type t, _, .seq its _, _⟩ => t == "tuple" && its.isEmpty
  | _ => false
def Fy.ok (K : PySem.W.Frag) : Fy → Bool
  | .he f => f.ok K
  | .dun x y m => decide (PySem.W.findIn K (.ref (He.ga K x)) m = some (some (.ref (He.ma K (He.ga K y) m)))) && PySem.W.isFn K (.ref (He.ma K (He.ga K y) m))
  | .prop x y p => decide (PySem.W.findIn K (.ref (He.ga K x)) p = some (some (.ref (pAd K (He.ga K y) p)))) && (decide (PySem.W.specialIn K (.ref (pAd K (He.ga K y) p)) "__get__" = some (some (.builtin "property.__get__"))) && (decide (PySem.W.takesIn K (.ref (pAd K (He.ga K y) p)) = some true) &&
      (match PySem.W.recIn K (pAd K (He.ga K y) p) "property" with
        | some (.ref _ :: _) => true
        | _ => false)))
  | .kit t c b => decide (PySem.W.kitOne K (t.v K) (c.v K) = some b)
  | .insx x => decide (PySem.W.findIn K (.ref (He.ga K x)) "__class__" = some (some (.builtin "object.__class__"))) && (decide (PySem.W.specialIn K (.builtin "object.__class__") "__get__" = some (some (.builtin "getset_descriptor.__get__"))) &&
      (decide (PySem.W.takesIn K (.builtin "object.__class__") = some true) && decide (PySem.W.mroIn K (He.ga K x) (.type "object") = some true)))
  | .sf x => PySem.W.selfFirst K (He.ga K x)
  | .tup x vs => He.tupB K x vs
  | .etup p i => etB K (He.dflAt p i K)
/-- one def: where it stands, name, qualified name, parameters, body, scope, defaults -/
structure DefM where
  ad : PySem.W.Frag → Addr
  name : Str
  qual : Str
  params : Arguments
  body : List Stmt
  scope : Scope
  dfl : List He.Dv := []
abbrev FnVM := Option (Str × Str × Arguments × FuncBody × Scope × Addr × List (Str × Addr) × Addr)
def DefM.val (d : DefM) : FnVM := some (d.name, d.qual, d.params, .stmts d.body, d.scope, mainGlobals, [], builtinsNs)
def DefM.see (K : PySem.W.Frag) (d : DefM) : FnVM := match K.lookup (d.ad K) with
  | some ⟨_, _, .func fd, _⟩ => some (fd.name, fd.qualname, fd.params, fd.body, fd.scope, fd.globals, fd.closure, fd.builtins)
  | _ => none
def DefM.dvs (K : PySem.W.Frag) (d : DefM) : List V := d.dfl.map (He.Dv.v K)
def DefM.ok (K : PySem.W.Frag) (d : DefM) : Bool := match K.lookup (d.ad K) with
  | some ⟨_, _, .func fd, _⟩ => PySem.W.keepIn K (.ref (d.ad K)) && PySem.W.codeIn K fd.code d.qual && He.dflB K fd.defaults (d.dvs K)
  | _ => false
abbrev AlM : Type := Bool × List FnVM
def obsM (fy : List Fy) (fn : List DefM) (K : PySem.W.Frag) : AlM := ((fy.all fun f => f.ok K) && fn.all fun d => d.ok K, fn.map fun d => d.see K)
def valM (fn : List DefM) : AlM := (true, fn.map DefM.val)
def SaysM (fy : List Fy) (fn : List DefM) (K : PySem.W.Frag) : Prop := obsM fy fn K = valM fn
def obsMG (n : Nat) (fy : List Fy) (fn : List DefM) (g : Addr → Option Obj) : AlM := obsM fy fn (He.frG g (He.asD g n))
def hookM (n : Nat) (fy : List Fy) (fn : List DefM) : PySem.W.Hook where
  α := AlM
  obs := fun s => obsMG n fy fn s.heap.get?
  val := fun _ => valM fn
  says := fun _ h => ∃ K : PySem.W.Frag, K.In h ∧ SaysM fy fn K
  of := fun _ _ e => ⟨_, He.frG_in, e⟩
  keeps := fun _ _ _ ⟨K, hK, c⟩ k => ⟨K, PySem.W.Frag.In.keeps hK k, c⟩
theorem obsMG_eq {n : Nat} {fy : List Fy} {fn : List DefM} {g : Addr → Option Obj} {s : Shared} (h : ∀ a, g a = s.heap.get? a) : obsMG n fy fn g = (hookM n fy fn).obs s := by
  have e : g = s.heap.get? := funext h
  rw [e] <;> rfl
def caOf (K : PySem.W.Frag) (ins exc : List Str) : Nat → Option Addr := fun n => if n < 20 then (ins[n]?).map (He.ga K) else (exc[n - 20]?).map (He.ga K)
def allF : List Fld := [.rows, .marks, .numbers, .ownPlant, .ownNews, .past, .ownMost]
def cfFacts (ins : List Str) : List Fy := ins.flatMap fun x => .he (.cls x) :: .insx x :: .he (.glo x) :: allF.map fun f => .he (.noat x f.nm)
def tbF (l : List (TC × TC × Bool)) (t c : TC) : Option Bool := (l.find? fun z => decide (z.1 = t) && decide (z.2.1 = c)).map (·.2.2)
def tnOf (ins : List Str) : TC → TN
  | .b t => .b t
  | .nt => .nt
  | .c n => .c (ins.getD n "")
def isFacts (ins : List Str) (l : List (TC × TC × Bool)) : List Fy := l.map fun z => .kit (tnOf ins z.1) (tnOf ins z.2.1) z.2.2
end MP
end L2

set_option Elab.async false
set_option linter.all false
set_option maxRecDepth 100000
set_option maxHeartbeats 2000000
namespace L2
namespace MP
namespace Law
open PySem PySem.Spec PyProof.Rows
def top (i : Nat) : Stmt := PySem.Challenge.pw_latehelm_k09_next_situations.main.body.getD i (.Pass ⟨0, 0, 0, 0⟩)
def isL : List (TC × TC × Bool) := [(.b .int, .b .int, true), (.b .int, .b .bool, false), (.b .int, .b .tuple, false), (.b .int, .b .list, false), (.b .int, .c 0, false), (.b .int, .c 1, false), (.b .int, .c 2, false), (.b .int, .c 3, false), (.b .int, .c 4, false), (.b .bool, .b .int, true), (.b .bool, .b .bool, true), (.b .bool, .b .tuple, false), (.b .bool, .b .list, false), (.b .bool, .c 0, false), (.b .bool, .c 1, false), (.b .bool, .c 2, false), (.b .bool, .c 3, false), (.b .bool, .c 4, false), (.b .str, .b .int, false), (.b .str, .b .bool, false), (.b .str, .b .tuple, false), (.b .str, .b .list, false), (.b .str, .c 0, false), (.b .str, .c 1, false), (.b .str, .c 2, false), (.b .str, .c 3, false), (.b .str, .c 4, false), (.b .tuple, .b .int, false), (.b .tuple, .b .bool, false), (.b .tuple, .b .tuple, true), (.b .tuple, .b .list, false), (.b .tuple, .c 0, false), (.b .tuple, .c 1, false), (.b .tuple, .c 2, false), (.b .tuple, .c 3, false), (.b .tuple, .c 4, false), (.b .list, .b .int, false), (.b .list, .b .bool, false), (.b .list, .b .tuple, false), (.b .list, .b .list, true), (.b .list, .c 0, false), (.b .list, .c 1, false), (.b .list, .c 2, false), (.b .list, .c 3, false), (.b .list, .c 4, false), (.nt, .b .int, false), (.nt, .b .bool, false), (.nt, .b .tuple, false), (.nt, .b .list, false), (.nt, .c 0, false), (.nt, .c 1, false), (.nt, .c 2, false), (.nt, .c 3, false), (.nt, .c 4, false), (.c 0, .b .int, false), (.c 0, .b .bool, false), (.c 0, .b .tuple, false), (.c 0, .b .list, false), (.c 0, .c 0, true), (.c 0, .c 1, false), (.c 0, .c 2, false), (.c 0, .c 3, false), (.c 0, .c 4, false), (.c 1, .b .int, false), (.c 1, .b .bool, false), (.c 1, .b .tuple, false), (.c 1, .b .list, false), (.c 1, .c 0, false), (.c 1, .c 1, true), (.c 1, .c 2, false), (.c 1, .c 3, false), (.c 1, .c 4, false), (.c 2, .b .int, false), (.c 2, .b .bool, false), (.c 2, .b .tuple, false), (.c 2, .b .list, false), (.c 2, .c 0, false), (.c 2, .c 1, true), (.c 2, .c 2, true), (.c 2, .c 3, false), (.c 2, .c 4, false), (.c 3, .b .int, false), (.c 3, .b .bool, false), (.c 3, .b .tuple, false), (.c 3, .b .list, false), (.c 3, .c 0, false), (.c 3, .c 1, true), (.c 3, .c 2, false), (.c 3, .c 3, true), (.c 3, .c 4, false), (.c 4, .b .int, false), (.c 4, .b .bool, false), (.c 4, .b .tuple, false), (.c 4, .b .list, false), (.c 4, .c 0, false), (.c 4, .c 1, true), (.c 4, .c 2, true), (.c 4, .c 3, true), (.c 4, .c 4, true)]
def isT : TC → TC → Option Bool := tbF isL
def insN : List Str := ["Plant", "News", "Late", "Lost", "LateLost"]
def excN : List Str := ["HelmError", "NoMoves", "NoMarks", "NoPlant", "NoPlace", "NoOrder", "NoAnswer", "NoText", "NoNumber", "NoNews", "NoSituation", "TooMuch"]
def df_x_law_pen : DefM := ⟨(fun K => He.ga K "_law_pen"), "_law_pen", "_law_pen", defArgs (top 52), defBody (top 52), defScope (top 52), []⟩
def df_x_law_cell_at : DefM := ⟨(fun K => He.ga K "_law_cell_at"), "_law_cell_at", "_law_cell_at", defArgs (top 51), defBody (top 51), defScope (top 51), []⟩
def df_xis_between : DefM := ⟨(fun K => He.ga K "is_between"), "is_between", "is_between", defArgs (top 20), defBody (top 20), defScope (top 20), []⟩
def df_xare_ascending : DefM := ⟨(fun K => He.ga K "are_ascending"), "are_ascending", "are_ascending", defArgs (top 21), defBody (top 21), defScope (top 21), []⟩
def df_xare_moves : DefM := ⟨(fun K => He.ga K "are_moves"), "are_moves", "are_moves", defArgs (top 22), defBody (top 22), defScope (top 22), []⟩
def df_xPlantDUinitU : DefM := ⟨(fun K => He.ma K (He.ga K "Plant") "__init__"), "__init__", "Plant.__init__", defArgs (inClass (top 31) 0), defBody (inClass (top 31) 0), defScope (inClass (top 31) 0), [.adr (He.dflAt ("Plant", some "__init__") 0), .adr (He.dflAt ("Plant", some "__init__") 1)]⟩
def df_x_law_made : DefM := ⟨(fun K => He.ga K "_law_made"), "_law_made", "_law_made", defArgs (top 60), defBody (top 60), defScope (top 60), []⟩
def df_x_law_draw : DefM := ⟨(fun K => He.ga K "_law_draw"), "_law_draw", "_law_draw", defArgs (top 53), defBody (top 53), defScope (top 53), []⟩
def df_x_law_numbers : DefM := ⟨(fun K => He.ga K "_law_numbers"), "_law_numbers", "_law_numbers", defArgs (top 66), defBody (top 66), defScope (top 66), []⟩
def df_xneed_number : DefM := ⟨(fun K => He.ga K "need_number"), "need_number", "need_number", defArgs (top 41), defBody (top 41), defScope (top 41), []⟩
def df_xnumbers_of : DefM := ⟨(fun K => He.ga K "numbers_of"), "numbers_of", "numbers_of", defArgs (top 44), defBody (top 44), defScope (top 44), []⟩
def df_xLateDUinitU : DefM := ⟨(fun K => He.ma K (He.ga K "Late") "__init__"), "__init__", "Late.__init__", defArgs (inClass (top 46) 0), defBody (inClass (top 46) 0), defScope (inClass (top 46) 0), []⟩
def df_xLostDUinitU : DefM := ⟨(fun K => He.ma K (He.ga K "Lost") "__init__"), "__init__", "Lost.__init__", defArgs (inClass (top 47) 0), defBody (inClass (top 47) 0), defScope (inClass (top 47) 0), []⟩
def df_xLateLostDUinitU : DefM := ⟨(fun K => He.ma K (He.ga K "LateLost") "__init__"), "__init__", "LateLost.__init__", defArgs (inClass (top 48) 0), defBody (inClass (top 48) 0), defScope (inClass (top 48) 0), []⟩
def df_x_law_news : DefM := ⟨(fun K => He.ga K "_law_news"), "_law_news", "_law_news", defArgs (top 65), defBody (top 65), defScope (top 65), []⟩
def df_xPlantDorders : DefM := ⟨(fun K => gAd K (He.ga K "Plant") "orders"), "orders", "Plant.orders", defArgs (inClass (top 31) 5), defBody (inClass (top 31) 5), defScope (inClass (top 31) 5), []⟩
def df_xPlantDplaces : DefM := ⟨(fun K => gAd K (He.ga K "Plant") "places"), "places", "Plant.places", defArgs (inClass (top 31) 4), defBody (inClass (top 31) 4), defScope (inClass (top 31) 4), []⟩
def df_xPlantDUreprU : DefM := ⟨(fun K => He.ma K (He.ga K "Plant") "__repr__"), "__repr__", "Plant.__repr__", defArgs (inClass (top 31) 12), defBody (inClass (top 31) 12), defScope (inClass (top 31) 12), []⟩
def df_xNewsDlate : DefM := ⟨(fun K => gAd K (He.ga K "News") "late"), "late", "News.late", defArgs (inClass (top 45) 0), defBody (inClass (top 45) 0), defScope (inClass (top 45) 0), []⟩
def df_xLateDUreprU : DefM := ⟨(fun K => He.ma K (He.ga K "Late") "__repr__"), "__repr__", "Late.__repr__", defArgs (inClass (top 46) 1), defBody (inClass (top 46) 1), defScope (inClass (top 46) 1), []⟩
def df_xNewsDlost : DefM := ⟨(fun K => gAd K (He.ga K "News") "lost"), "lost", "News.lost", defArgs (inClass (top 45) 1), defBody (inClass (top 45) 1), defScope (inClass (top 45) 1), []⟩
def df_xLostDUreprU : DefM := ⟨(fun K => He.ma K (He.ga K "Lost") "__repr__"), "__repr__", "Lost.__repr__", defArgs (inClass (top 47) 1), defBody (inClass (top 47) 1), defScope (inClass (top 47) 1), []⟩
def df_xLateLostDUreprU : DefM := ⟨(fun K => He.ma K (He.ga K "LateLost") "__repr__"), "__repr__", "LateLost.__repr__", defArgs (inClass (top 48) 1), defBody (inClass (top 48) 1), defScope (inClass (top 48) 1), []⟩
def df_x_law_row : DefM := ⟨(fun K => He.ga K "_law_row"), "_law_row", "_law_row", defArgs (top 63), defBody (top 63), defScope (top 63), []⟩
def df_x_law_led : DefM := ⟨(fun K => He.ga K "_law_led"), "_law_led", "_law_led", defArgs (top 61), defBody (top 61), defScope (top 61), []⟩
def df_x_law_after : DefM := ⟨(fun K => He.ga K "_law_after"), "_law_after", "_law_after", defArgs (top 62), defBody (top 62), defScope (top 62), []⟩
def df_x_law_next : DefM := ⟨(fun K => He.ga K "_law_next"), "_law_next", "_law_next", defArgs (top 64), defBody (top 64), defScope (top 64), []⟩
def df_x_law_same : DefM := ⟨(fun K => He.ga K "_law_same"), "_law_same", "_law_same", defArgs (top 54), defBody (top 54), defScope (top 54), []⟩
def df_xneed_plant : DefM := ⟨(fun K => He.ga K "need_plant"), "need_plant", "need_plant", defArgs (top 25), defBody (top 25), defScope (top 25), []⟩
def df_xPlantDUlenU : DefM := ⟨(fun K => He.ma K (He.ga K "Plant") "__len__"), "__len__", "Plant.__len__", defArgs (inClass (top 31) 9), defBody (inClass (top 31) 9), defScope (inClass (top 31) 9), []⟩
def df_xis_place : DefM := ⟨(fun K => He.ga K "is_place"), "is_place", "is_place", defArgs (top 23), defBody (top 23), defScope (top 23), []⟩
def df_xis_order : DefM := ⟨(fun K => He.ga K "is_order"), "is_order", "is_order", defArgs (top 24), defBody (top 24), defScope (top 24), []⟩
def df_xis_row : DefM := ⟨(fun K => He.ga K "is_row"), "is_row", "is_row", defArgs (top 36), defBody (top 36), defScope (top 36), []⟩
def df_xis_situation : DefM := ⟨(fun K => He.ga K "is_situation"), "is_situation", "is_situation", defArgs (top 37), defBody (top 37), defScope (top 37), [.int 8]⟩
def df_xneed_situation : DefM := ⟨(fun K => He.ga K "need_situation"), "need_situation", "need_situation", defArgs (top 38), defBody (top 38), defScope (top 38), [.int 8]⟩
def df_xneed_order : DefM := ⟨(fun K => He.ga K "need_order"), "need_order", "need_order", defArgs (top 27), defBody (top 27), defScope (top 27), []⟩
def df_xPlantDmoves : DefM := ⟨(fun K => gAd K (He.ga K "Plant") "moves"), "moves", "Plant.moves", defArgs (inClass (top 31) 1), defBody (inClass (top 31) 1), defScope (inClass (top 31) 1), []⟩
def df_xled : DefM := ⟨(fun K => He.ga K "led"), "led", "led", defArgs (top 34), defBody (top 34), defScope (top 34), []⟩
def df_xafter : DefM := ⟨(fun K => He.ga K "after"), "after", "after", defArgs (top 35), defBody (top 35), defScope (top 35), []⟩
def df_xdue_in : DefM := ⟨(fun K => He.ga K "due_in"), "due_in", "due_in", defArgs (top 42), defBody (top 42), defScope (top 42), []⟩
def df_xnext_in : DefM := ⟨(fun K => He.ga K "next_in"), "next_in", "next_in", defArgs (top 43), defBody (top 43), defScope (top 43), []⟩
def df_xNewsDUcallU : DefM := ⟨(fun K => He.ma K (He.ga K "News") "__call__"), "__call__", "News.__call__", defArgs (inClass (top 45) 2), defBody (inClass (top 45) 2), defScope (inClass (top 45) 2), []⟩
def df_xPlantDgoal : DefM := ⟨(fun K => gAd K (He.ga K "Plant") "goal"), "goal", "Plant.goal", defArgs (inClass (top 31) 3), defBody (inClass (top 31) 3), defScope (inClass (top 31) 3), []⟩
def df_xPlantDbad : DefM := ⟨(fun K => gAd K (He.ga K "Plant") "bad"), "bad", "Plant.bad", defArgs (inClass (top 31) 2), defBody (inClass (top 31) 2), defScope (inClass (top 31) 2), []⟩
def df_x_law_right : DefM := ⟨(fun K => He.ga K "_law_right"), "_law_right", "_law_right", defArgs (top 67), defBody (top 67), defScope (top 67), []⟩
def df_x_law_answers : DefM := ⟨(fun K => He.ga K "_law_answers"), "_law_answers", "_law_answers", defArgs (top 56), defBody (top 56), defScope (top 56), []⟩
def df_x_law_moves : DefM := ⟨(fun K => He.ga K "_law_moves"), "_law_moves", "_law_moves", defArgs (top 57), defBody (top 57), defScope (top 57), []⟩
def df_x_law_marks : DefM := ⟨(fun K => He.ga K "_law_marks"), "_law_marks", "_law_marks", defArgs (top 58), defBody (top 58), defScope (top 58), []⟩
def df_x_law_parts : DefM := ⟨(fun K => He.ga K "_law_parts"), "_law_parts", "_law_parts", defArgs (top 59), defBody (top 59), defScope (top 59), []⟩
def df_xlaw : DefM := ⟨(fun K => He.ga K "law"), "law", "law", defArgs (top 68), defBody (top 68), defScope (top 68), []⟩
def fn : List DefM := [df_x_law_pen, df_x_law_cell_at, df_xis_between, df_xare_ascending, df_xare_moves, df_xPlantDUinitU, df_x_law_made, df_x_law_draw, df_x_law_numbers, df_xneed_number, df_xnumbers_of, df_xLateDUinitU, df_xLostDUinitU, df_xLateLostDUinitU, df_x_law_news, df_xPlantDorders, df_xPlantDplaces, df_xPlantDUreprU, df_xNewsDlate, df_xLateDUreprU, df_xNewsDlost, df_xLostDUreprU, df_xLateLostDUreprU, df_x_law_row, df_x_law_led, df_x_law_after, df_x_law_next, df_x_law_same, df_xneed_plant, df_xPlantDUlenU, df_xis_place, df_xis_order, df_xis_row, df_xis_situation, df_xneed_situation, df_xneed_order, df_xPlantDmoves, df_xled, df_xafter, df_xdue_in, df_xnext_in, df_xNewsDUcallU, df_xPlantDgoal, df_xPlantDbad, df_x_law_right, df_x_law_answers, df_x_law_moves, df_x_law_marks, df_x_law_parts, df_xlaw]
def fyX : List Fy := [(.he (.glo "NoMarks")), (.he (.glo "NoMoves")), (.he (.glo "NoNumber")), (.he (.glo "NoOrder")), (.he (.glo "NoPlant")), (.he (.glo "NoSituation")), (.he (.glo "TooMuch"))]
def fyA : List Fy := [(.he (.free "all")), (.he (.free "any")), (.he (.free "bool")), (.he (.free "int")), (.he (.free "isinstance")), (.he (.free "len")), (.he (.free "list")), (.he (.free "max")), (.he (.free "min")), (.he (.free "range")), (.he (.free "repr")), (.he (.free "set")), (.he (.free "sorted")), (.he (.free "tuple")), (.he (.int "MOST" 4)), (.he (.int "MOST_ORDERS" 3)), (.he (.int "MOST_PLACES" 6)), (.he (.glo "Plant")), (.he (.mkr "Plant")), (.he (.glo "Plant")), (.he (.glo "News")), (.he (.glo "Late")), (.he (.mkr "Late")), (.he (.glo "Late")), (.he (.glo "Lost")), (.he (.mkr "Lost")), (.he (.glo "Lost")), (.he (.glo "LateLost")), (.he (.mkr "LateLost")), (.he (.glo "LateLost")), (.he (.exc "NoMarks")), (.he (.exc "NoMoves")), (.he (.exc "NoNumber")), (.he (.exc "NoOrder")), (.he (.exc "NoPlant")), (.he (.exc "NoSituation")), (.he (.exc "TooMuch")), (.prop "Plant" "Plant" "orders"), (.prop "Plant" "Plant" "places"), (.prop "LateLost" "News" "late"), (.prop "Lost" "News" "late"), (.prop "Late" "News" "late"), (.prop "News" "News" "late"), (.prop "LateLost" "News" "lost"), (.prop "Lost" "News" "lost"), (.prop "Late" "News" "lost"), (.prop "News" "News" "lost"), (.dun "LateLost" "LateLost" "__repr__"), (.dun "Lost" "Lost" "__repr__"), (.dun "Late" "Late" "__repr__"), (.dun "Plant" "Plant" "__repr__"), (.dun "Plant" "Plant" "__len__"), (.prop "Plant" "Plant" "moves"), (.dun "LateLost" "News" "__call__"), (.dun "Lost" "News" "__call__"), (.dun "Late" "News" "__call__"), (.dun "News" "News" "__call__"), (.prop "Plant" "Plant" "goal"), (.prop "Plant" "Plant" "bad"), (.he (.glo "_law_pen")), (.he (.glo "_law_cell_at")), (.he (.glo "is_between")), (.he (.glo "are_ascending")), (.he (.glo "are_moves")), (.etup ("Plant", some "__init__") 0), (.etup ("Plant", some "__init__") 1), (.he (.glo "_law_made")), (.he (.glo "_law_draw")), (.he (.glo "_law_numbers")), (.he (.glo "need_number")), (.he (.glo "numbers_of")), (.he (.glo "_law_news")), (.he (.glo "_law_row")), (.he (.glo "_law_led")), (.he (.glo "_law_after")), (.he (.glo "_law_next")), (.he (.glo "_law_same")), (.he (.glo "need_plant")), (.he (.glo "is_place")), (.he (.glo "is_order")), (.he (.glo "is_row")), (.he (.glo "is_situation")), (.he (.glo "need_situation")), (.he (.glo "need_order")), (.he (.glo "led")), (.he (.glo "after")), (.he (.glo "due_in")), (.he (.glo "next_in")), (.he (.glo "_law_right")), (.he (.glo "_law_answers")), (.he (.glo "_law_moves")), (.he (.glo "_law_marks")), (.he (.glo "_law_parts")), (.he (.glo "law"))]
def fy : List Fy := fyA ++ (fyX ++ (cfFacts insN ++ isFacts insN isL))
end Law
end MP
end L2

set_option Elab.async false
set_option linter.all false
set_option maxRecDepth 1000000
set_option maxHeartbeats 0
namespace L2
namespace MP
namespace Law
open PySem PySem.Spec PyProof.Rows
abbrev R : PySem.W.OpenRow := PySem.W.OpenLaw.row PySem.Challenge.rw_latehelm_k09_next_situations
abbrev hk : PySem.W.Hook := hookM 8 fy fn
def ob (s : PySem.W.SharedT) : AlM := obsMG 8 fy fn (HandSHeadRun.getT s)
theorem ob_eq (s : PySem.W.SharedT) : ob s = hk.obs s.abs := obsMG_eq (HandSHeadRun.getT_eq s)
def loose1 : List Str := ["__name__", "__name__", "HelmError", "NoMoves", "NoMarks", "NoPlant", "NoPlace", "NoOrder", "NoAnswer", "NoText", "NoNumber", "NoNews", "NoSituation", "TooMuch", "__name__", "MOST_PLACES", "MOST_ORDERS", "DIGITS", "BAD", "GOAL"]
def loose2 : List Str := ["BETWEEN", "is_between", "are_ascending", "are_moves", "is_place", "is_order", "need_plant", "need_place", "need_order", "is_triple", "answered", "numbers_in", "Plant", "__name__", "MOST_ROW", "led", "after", "is_row", "is_situation", "need_situation"]
def loose3 : List Str := ["__name__", "MOST", "need_number", "due_in", "next_in", "numbers_of", "News", "Late", "Lost", "LateLost", "need_news", "__name__", "_law_cell_at", "_law_pen", "_law_draw", "_law_same", "_law_pick", "_law_answers", "_law_moves", "_law_marks"]
def loose4 : List Str := ["_law_parts", "_law_made", "_law_led", "_law_after", "_law_row", "_law_next", "_law_news", "_law_numbers", "_law_right"]
def loose : List Str := loose1 ++ (loose2 ++ (loose3 ++ (loose4)))
theorem run (w : World) : HandSHeadRun.RunEq R (PySem.W.view R.prog [68]) hk ob 20000 loose w := by
  intro os
  kernel_rfl
end Law
end MP
end L2

set_option Elab.async false
set_option linter.all false
set_option maxRecDepth 100000
set_option maxHeartbeats 2000000
namespace L2
namespace MP
open PySem PySem.Spec PyProof.Rows
/-! ### values, heap, ends of a pure reading of the program -/
/-- a value: tuples, frozen lists, dicts and instances by what they hold; what may still change by its place -/
inductive D where
  | non | bl (b : Bool) | int (i : Int) | str (s : List Nat)
  | tup (xs : List D) | lst (xs : List D) | dct (kvs : List (D × D)) | ins (c : Nat) (fs : List (Fld × D))
  | loc (l : Nat) | cls (c : Nat) | exn (c : Nat) | lam (c : Nat) (vs : List D) | scr (ns : List Int) | ty (t : TyN)
inductive MO where
  | lst (xs : List D) | dct (kvs : List (D × D)) | ins (c : Nat) (fs : List (Fld × D))
abbrev Hm := List (Option MO)
abbrev Ev := List (Option D)
inductive Res (α : Type) where
  | ok (v : α) (h : Hm) | exc (c : Nat) (h : Hm) | bad
def Res.bind {α β : Type} : Res α → (α → Hm → Res β) → Res β
  | .ok v h, f => f v h
  | .exc c h, _ => .exc c h
  | .bad, _ => .bad
inductive SRes where
  | nx (e : Ev) (h : Hm) | rt (v : D) (h : Hm) | bk (e : Ev) (h : Hm) | ct (e : Ev) (h : Hm) | ex (c : Nat) (e : Ev) (h : Hm) | bad
abbrev ME := Ev → Hm → Res D
abbrev MT := Ev → Hm → Res Bool
abbrev MA := Ev → Hm → Res (List D)
abbrev MS := Ev → Hm → SRes
def Hm.get (h : Hm) (l : Nat) : Option MO := (h[l]?).join

/-! ### keys of dicts -/
mutual
def D.key : D → Option NestedKey
  | .non => some .none
  | .int i => some (.num i)
  | .str s => some (.text ⟨s.toArray⟩)
  | .tup xs => (D.keys xs).map .tup
  | _ => none
def D.keys : List D → Option (List NestedKey)
  | [] => some []
  | x :: xs => match D.key x, D.keys xs with
    | some k, some ks => some (k :: ks)
    | _, _ => none
end

def isTupD : D → Bool
  | .tup _ => true
  | _ => false
/-- the keys are tuples, no two of them equal -/
def dok (kvs : List (D × D)) : Prop := (kvs.map fun p => D.key p.1).Nodup ∧ kvs.length ≤ 16777216 ∧ ∀ p ∈ kvs, isTupD p.1 = true ∧ ∃ k, D.key p.1 = some k ∧ k.depth ≤ 8
/-! ### how a value lies in the heap -/
/-- a tuple: tracked, or of the written part -/
def TupAt (K : PySem.W.Frag) (G : Hp) (a : Addr) (xs : List V) : Prop := G a = some (.tup xs) ∨
  ∃ (o : Obj) (its : Array Value) (n : Nat), K.lookup a = some o ∧ o.cls = .type "tuple" ∧ o.data = .seq its n ∧ its.size ≤ sizeLine ∧ Vals xs its.toList
def dictφ (a : Addr) (es : List DictEntry) : Heap → Prop := fun h => ∃ o ep, h.get? a = some o ∧ o.ExactDict ∧ o.data = .dict es.toArray ep
/-- what is known to stay: values may hold it (f), or nobody may look at it (p) -/
structure GP where
  f : Hp
  p : Hp
mutual
inductive Rep (w : World) (K : PySem.W.Frag) (ca : Nat → Option Addr) (G : GP) (ι : List Addr) : D → V → Prop
  | non : Rep w K ca G ι .non .non
  | bl (b : Bool) : Rep w K ca G ι (.bl b) (.bl b)
  | int (i : Int) : Rep w K ca G ι (.int i) (.int i)
  | str (s : List Nat) : Rep w K ca G ι (.str s) (.str ⟨s.toArray⟩)
  | tup {a : Addr} {xs : List V} {ds : List D} : TupAt K G.f a xs → RepL w K ca G ι ds xs → Rep w K ca G ι (.tup ds) (.ref a)
  | lst {a : Addr} {xs : List V} {ds : List D} : G.f a = some (.lst xs) → RepL w K ca G ι ds xs → Rep w K ca G ι (.lst ds) (.ref a)
  | scr {a : Addr} {ns : List Int} : SqL K G.f a (ns.map V.int) → Rep w K ca G ι (.scr ns) (.ref a)
  | dct {a : Addr} {o : Obj} {es : List DictEntry} {kvs : List (D × D)} : (a == sysModules) = false → dok kvs → G.f a = some (.frz o (.ext (dictφ a es))) → RepE w K ca G ι kvs es → Rep w K ca G ι (.dct kvs) (.ref a)
  | ins {a dx C : Addr} {c : Nat} {fs : List (Str × V)} {fds : List (Fld × D)} : ca c = some C → G.f a = some (.ins C dx fs) → RepF w K ca G ι fds fs → Rep w K ca G ι (.ins c fds) (.ref a)
  | loc {l : Nat} {a : Addr} : ι[l]? = some a → Rep w K ca G ι (.loc l) (.ref a)
  | cls {c : Nat} {C : Addr} : ca c = some C → Rep w K ca G ι (.cls c) (.ref C)
  | ty (t : TyN) : Rep w K ca G ι (.ty t) (.ty t.nm)
inductive RepL (w : World) (K : PySem.W.Frag) (ca : Nat → Option Addr) (G : GP) (ι : List Addr) : List D → List V → Prop
  | nil : RepL w K ca G ι [] []
  | cons {d : D} {v : V} {ds : List D} {vs : List V} : Rep w K ca G ι d v → RepL w K ca G ι ds vs → RepL w K ca G ι (d :: ds) (v :: vs)
inductive RepE (w : World) (K : PySem.W.Frag) (ca : Nat → Option Addr) (G : GP) (ι : List Addr) : List (D × D) → List DictEntry → Prop
  | nil : RepE w K ca G ι [] []
  | cons {d e : D} {kv vv : V} {en : DictEntry} {k : NestedKey} {kvs : List (D × D)} {es : List DictEntry} : Rep w K ca G ι d kv → RelV kv en.key → D.key d = some k → en.hash = k.hash w → Rep w K ca G ι e vv → RelV vv en.val → RepE w K ca G ι kvs es → RepE w K ca G ι ((d, e) :: kvs) (en :: es)
inductive RepF (w : World) (K : PySem.W.Frag) (ca : Nat → Option Addr) (G : GP) (ι : List Addr) : List (Fld × D) → List (Str × V) → Prop
  | nil : RepF w K ca G ι [] []
  | cons {f : Fld} {d : D} {v : V} {fds : List (Fld × D)} {fs : List (Str × V)} : Rep w K ca G ι d v → RepF w K ca G ι fds fs → RepF w K ca G ι ((f, d) :: fds) ((f.nm, v) :: fs)
end

section
variable {K : PySem.W.Frag} {G G' : Hp}
theorem same_rd {H H' : Hp} {a : Addr} {u : HO} (e : Same H H') (r : Rd H a u) : Rd H' a u := by
  rcases r with r | ⟨o, r⟩
  · exact .inl (e _ _ r)
  · exact .inr ⟨o, e _ _ r⟩
theorem same_sqT {a : Addr} {xs : List V} (e : Same G G') (h : TupAt K G a xs) : SqT K G' a xs := h.imp (fun z => .inl (e _ _ z)) id
theorem TupAt.mono {a : Addr} {xs : List V} (e : Same G G') (h : TupAt K G a xs) : TupAt K G' a xs := h.imp (e _ _) id
theorem same_sqL {a : Addr} {xs : List V} (e : Same G G') (h : SqL K G a xs) : SqL K G' a xs := h.imp (same_rd e) id
end
section
variable {w : World} {K : PySem.W.Frag} {ca : Nat → Option Addr} {G G' : GP} {ι ι' : List Addr}
theorem pre_get {l : Nat} {a : Addr} (p : ι <+: ι') (h : ι[l]? = some a) : ι'[l]? = some a := by
  obtain ⟨t, rfl⟩ := p
  rw [List.getElem?_append_left (List.getElem?_eq_some_iff.mp h).1]
  exact h
mutual
theorem Rep.mono (e : Same G.f G'.f) (p : ι <+: ι') : ∀ {d : D} {v : V}, Rep w K ca G ι d v → Rep w K ca G' ι' d v
  | _, _, .non => .non
  | _, _, .bl b => .bl b
  | _, _, .int i => .int i
  | _, _, .str s => .str s
  | _, _, .tup q r => .tup (q.mono e) (r.mono e p)
  | _, _, .lst q r => .lst (e _ _ q) (r.mono e p)
  | _, _, .scr q => .scr (same_sqL e q)
  | _, _, .dct n m q r => .dct n m (e _ _ q) (r.mono e p)
  | _, _, .ins c q r => .ins c (e _ _ q) (r.mono e p)
  | _, _, .loc q => .loc (pre_get p q)
  | _, _, .cls c => .cls c
  | _, _, .ty t => .ty t
theorem RepL.mono (e : Same G.f G'.f) (p : ι <+: ι') : ∀ {d : List D} {v : List V}, RepL w K ca G ι d v → RepL w K ca G' ι' d v
  | _, _, .nil => .nil
  | _, _, .cons a b => .cons (a.mono e p) (b.mono e p)
theorem RepE.mono (e : Same G.f G'.f) (p : ι <+: ι') : ∀ {d : List (D × D)} {v : List DictEntry}, RepE w K ca G ι d v → RepE w K ca G' ι' d v
  | _, _, .nil => .nil
  | _, _, .cons a b c x f g t => .cons (a.mono e p) b c x (f.mono e p) g (t.mono e p)
theorem RepF.mono (e : Same G.f G'.f) (p : ι <+: ι') : ∀ {d : List (Fld × D)} {v : List (Str × V)}, RepF w K ca G ι d v → RepF w K ca G' ι' d v
  | _, _, .nil => .nil
  | _, _, .cons a b => .cons (a.mono e p) (b.mono e p)
end
theorem RepL.length : ∀ {ds : List D} {vs : List V}, RepL w K ca G ι ds vs → ds.length = vs.length
  | _, _, .nil => rfl
  | _, _, .cons _ t => by simp [RepL.length t]
theorem RepL.get : ∀ {ds : List D} {vs : List V} {i : Nat} {v : V}, RepL w K ca G ι ds vs → vs[i]? = some v → ∃ d, ds[i]? = some d ∧ Rep w K ca G ι d v
  | _, _, _, _, .nil, h => by simp at h
  | _, _, 0, v, .cons r _, h => ⟨_, rfl, by simp at h; subst h; exact r⟩
  | _, _, i + 1, v, .cons _ t, h => by
    obtain ⟨d, h1, h2⟩ := t.get (i := i) (v := v) (by simpa using h)
    exact ⟨d, by simpa using h1, h2⟩
theorem RepL.get' {ds : List D} {vs : List V} {i : Nat} {d : D} (r : RepL w K ca G ι ds vs) (h : ds[i]? = some d) : ∃ v, vs[i]? = some v ∧ Rep w K ca G ι d v := by
  have hl := r.length
  have hi := (List.getElem?_eq_some_iff.mp h).1
  obtain ⟨d', h1, h2⟩ := r.get (i := i) (v := vs[i]'(by omega)) (by simp)
  rw [h] at h1; cases h1
  exact ⟨_, by simp, h2⟩
theorem RepL.app : ∀ {ds ds' : List D} {vs vs' : List V}, RepL w K ca G ι ds vs → RepL w K ca G ι ds' vs' → RepL w K ca G ι (ds ++ ds') (vs ++ vs')
  | _, _, _, _, .nil, s => s
  | _, _, _, _, .cons r t, s => .cons r (t.app s)
theorem RepL.take : ∀ {ds : List D} {vs : List V} (n : Nat), RepL w K ca G ι ds vs → RepL w K ca G ι (ds.take n) (vs.take n)
  | _, _, 0, _ => .nil
  | _, _, _ + 1, .nil => .nil
  | _, _, n + 1, .cons r t => .cons r (t.take n)
theorem RepL.drop : ∀ {ds : List D} {vs : List V} (n : Nat), RepL w K ca G ι ds vs → RepL w K ca G ι (ds.drop n) (vs.drop n)
  | _, _, 0, r => r
  | _, _, _ + 1, .nil => .nil
  | _, _, n + 1, .cons _ t => RepL.drop n t
theorem RepL.rev : ∀ {ds : List D} {vs : List V}, RepL w K ca G ι ds vs → RepL w K ca G ι ds.reverse vs.reverse
  | _, _, .nil => .nil
  | _, _, .cons r t => by
    rw [List.reverse_cons, List.reverse_cons]
    exact t.rev.app (.cons r .nil)
theorem RepF.lookup (f : Fld) : ∀ {fds : List (Fld × D)} {fs : List (Str × V)} {d : D}, RepF w K ca G ι fds fs → fds.lookup f = some d → ∃ v, fs.lookup f.nm = some v ∧ Rep w K ca G ι d v
  | _, _, _, .nil, h => by simp at h
  | _, _, d, .cons (f := g) r t, h => by
    by_cases e : f = g
    · subst e
      rw [List.lookup_cons_self] at h ⊢
      cases h
      exact ⟨_, rfl, r⟩
    · have e1 : (f == g) = false := by simpa using e
      have e2 : (f.nm == g.nm) = false := by simpa using fun z => e (Fld.nm_inj z)
      rw [List.lookup_cons, e1] at h
      rw [List.lookup_cons, e2]
      exact t.lookup f h
theorem RepF.lookup_none (x : Str) (hx : ∀ f : Fld, f.nm ≠ x) : ∀ {fds : List (Fld × D)} {fs : List (Str × V)}, RepF w K ca G ι fds fs → fs.lookup x = none
  | _, _, .nil => rfl
  | _, _, .cons (f := g) r t => by
    have e2 : (x == g.nm) = false := by simpa using fun z => hx g z.symm
    rw [List.lookup_cons, e2]
    exact t.lookup_none x hx
end

/-! ### the heap of what may still change -/
inductive RepO (w : World) (K : PySem.W.Frag) (ca : Nat → Option Addr) (G : GP) (ι : List Addr) (a : Addr) : MO → HO → Prop
  | lst {ds : List D} {xs : List V} : RepL w K ca G ι ds xs → RepO w K ca G ι a (.lst ds) (.lst xs)
  | dct {kvs : List (D × D)} {es : List DictEntry} : (a == sysModules) = false → dok kvs → RepE w K ca G ι kvs es → RepO w K ca G ι a (.dct kvs) (.ext (dictφ a es))
  | ins {c : Nat} {C dx : Addr} {fds : List (Fld × D)} {fs : List (Str × V)} : ca c = some C → RepF w K ca G ι fds fs → RepO w K ca G ι a (.ins c fds) (.ins C dx fs)
theorem RepO.mono {w : World} {K : PySem.W.Frag} {ca : Nat → Option Addr} {G G' : GP} {ι ι' : List Addr} {a : Addr} {o : MO} {u : HO} (e : Same G.f G'.f) (p : ι <+: ι') (r : RepO w K ca G ι a o u) : RepO w K ca G' ι' a o u := by
  cases r with
  | lst r => exact .lst (r.mono e p)
  | dct n m r => exact .dct n m (r.mono e p)
  | ins c r => exact .ins c (r.mono e p)
structure RH (w : World) (K : PySem.W.Frag) (ca : Nat → Option Addr) (G : GP) (ι : List Addr) (H : Hp) (h : Hm) : Prop where
  le : Same G.f H
  pin : Same G.p H
  dis : ∀ a o, G.p a = some o → G.f a = none
  len : ι.length = h.length
  obj : ∀ l o, h.get l = some o → ∃ a u, ι[l]? = some a ∧ (G.f a = none ∧ G.p a = none) ∧ H a = some u ∧ RepO w K ca G ι a o u
  inj : ∀ l l' o o' a, h.get l = some o → h.get l' = some o' → ι[l]? = some a → ι[l']? = some a → l = l'
/-- the slots -/
structure RS (w : World) (K : PySem.W.Frag) (ca : Nat → Option Addr) (G : GP) (ι : List Addr) (σ : St) (e : Ev) : Prop where
  len : σ.length = e.length
  val : ∀ (i : Nat) (d : D), e[i]? = some (some d) → ∃ v, σ[i]? = some (some v) ∧ Rep w K ca G ι d v
theorem RS.mono {w : World} {K : PySem.W.Frag} {ca : Nat → Option Addr} {G G' : GP} {ι ι' : List Addr} {σ : St} {e : Ev} (s : Same G.f G'.f) (p : ι <+: ι') (r : RS w K ca G ι σ e) : RS w K ca G' ι' σ e :=
  ⟨r.len, fun i d h => let ⟨v, h1, h2⟩ := r.val i d h; ⟨v, h1, h2.mono s p⟩⟩
theorem RS.set {w : World} {K : PySem.W.Frag} {ca : Nat → Option Addr} {G : GP} {ι : List Addr} {σ : St} {e : Ev} {i : Nat} {d : D} {v : V} (r : RS w K ca G ι σ e) (q : Rep w K ca G ι d v) : RS w K ca G ι (σ.set i (some v)) (e.set i (some d)) :=
  ⟨by simp [r.len], fun j d' h => by
    by_cases hj : i = j
    · subst hj
      have hi : i < e.length := by
        by_cases hi : i < e.length
        · exact hi
        · rw [List.getElem?_eq_none (by simpa using hi)] at h; cases h
      rw [List.getElem?_set_self hi] at h
      cases h
      exact ⟨v, by rw [List.getElem?_set_self (by rw [r.len]; exact hi)], q⟩
    · rw [List.getElem?_set_ne hj] at h
      obtain ⟨v', h1, h2⟩ := r.val j d' h
      exact ⟨v', by rw [List.getElem?_set_ne hj]; exact h1, h2⟩⟩
theorem RS.unset {w : World} {K : PySem.W.Frag} {ca : Nat → Option Addr} {G : GP} {ι : List Addr} {σ : St} {e : Ev} {i : Nat} (r : RS w K ca G ι σ e) : RS w K ca G ι (σ.set i none) (e.set i none) :=
  ⟨by simp [r.len], fun j d' h => by
    by_cases hj : i = j
    · subst hj
      have hi : i < e.length := by
        by_cases hi : i < e.length
        · exact hi
        · rw [List.getElem?_eq_none (by simpa using hi)] at h; cases h
      rw [List.getElem?_set_self hi] at h
      cases h
    · rw [List.getElem?_set_ne hj] at h
      obtain ⟨v', h1, h2⟩ := r.val j d' h
      exact ⟨v', by rw [List.getElem?_set_ne hj]; exact h1, h2⟩⟩
def ewipe (e : Ev) : List Nat → Ev
  | [] => e
  | v :: vs => (ewipe e vs).set v none
theorem RS.wipe {w : World} {K : PySem.W.Frag} {ca : Nat → Option Addr} {G : GP} {ι : List Addr} {σ : St} {e : Ev} (r : RS w K ca G ι σ e) : ∀ vs : List Nat, RS w K ca G ι (wipe σ vs) (ewipe e vs)
  | [] => r
  | v :: vs => (r.wipe vs).unset

/-! ### the judgements -/
/-- what stays the same through a def's body, and through a law: the world, the written part, where the classes stand -/
structure GX where
  P : Program
  w : World
  K : PySem.W.Frag
  mg : Str → Option Value
  base : Heap
  ca : Nat → Option Addr
/-- what is wanted of an exception of one of the program's own classes -/
abbrev XW := Nat → St → Hp → Prop
def wx (ca : Nat → Option Addr) (W : XW) : WX := fun cls d σ H => ∃ c C, ca c = some C ∧ cls = .ref C ∧ d = none ∧ W c σ H
/-- a block's scope; the names whose cells were made at its own entry -/
structure SC where
  scope : Scope
  fb : Str → Bool
abbrev SC.names (s : SC) : List (Str × NameKind) := s.scope.names
/-- a def's -/
abbrev dsc (s : Scope) : SC := ⟨s, fun _ => true⟩
/-- a name that may be stored -/
def Lc (sc : SC) (x : Str) : Prop := sc.names.lookup x = some .local ∨ (sc.names.lookup x = some .cell ∧ sc.fb x = true)
structure At (g : GX) (N : List Str) (sc : SC) (k : Nat) (X : Cx) (W : XW) : Prop where
  eP : X.prog = g.P
  ew : X.w = g.w
  eK : X.K = g.K
  em : X.mg = g.mg
  eb : X.base = g.base
  eN : X.N = N
  es : X.env.scope = sc.scope
  nd : X.N.Nodup
  calm : X.calm = true
  room : Room k X.A
  gd : X.A.guards = some []
  tk : Takes X (wx g.ca W)
  po : PassesOwn (model X.prog X.w) X.A X.env X.xe
  fn : ∀ x, sc.fb x = true → X.fn x = true
theorem At.loc {g : GX} {N : List Str} {sc : SC} {k : Nat} {X : Cx} {W : XW} (c : At g N sc k X W) {x : Str} (hx : Lc sc x) : X.fn x = true ∨ X.env.scope.names.lookup x = some .local := by
  rcases hx with q | ⟨q, z⟩
  · exact .inr (by rw [c.es]; exact q)
  · exact .inl (c.fn x z)
theorem At.lc {g : GX} {N : List Str} {sc : SC} {k : Nat} {X : Cx} {W : XW} (c : At g N sc k X W) {x : Str} (hx : Lc sc x) : Loc X.env.scope x := by
  rw [c.es]
  exact hx.imp id And.left
/-- growth of what is known -/
structure Gr (G : GP) (ι : List Addr) (G' : GP) (ι' : List Addr) : Prop where
  s : Same G.f G'.f
  p : ι <+: ι'
  q : G'.p = G.p
theorem Gr.refl {G : GP} {ι : List Addr} : Gr G ι G ι := ⟨Same.refl _, List.prefix_refl _, rfl⟩
theorem Gr.trans {G G1 G2 : GP} {ι ι1 ι2 : List Addr} (a : Gr G ι G1 ι1) (b : Gr G1 ι1 G2 ι2) : Gr G ι G2 ι2 := ⟨a.s.trans b.s, a.p.trans b.p, b.q.trans a.q⟩
/-- the end of an expression -/
def PostR {α β : Type} (g : GX) (W : XW) (σ : St) (R : GP → List Addr → α → β → Prop) (G : GP) (ι : List Addr) (r : Res α) (Q : β → Hp → Prop) : Prop :=
  match r with
  | .ok v h => ∀ G' ι' H' x, Gr G ι G' ι' → RH g.w g.K g.ca G' ι' H' h → R G' ι' v x → Q x H'
  | .exc c h => ∀ G' ι' H', Gr G ι G' ι' → RH g.w g.K g.ca G' ι' H' h → W c σ H'
  | .bad => False
abbrev RpE (g : GX) (G : GP) (ι : List Addr) : D → V → Prop := Rep g.w g.K g.ca G ι
abbrev RpA (g : GX) (G : GP) (ι : List Addr) : List D → List V → Prop := RepL g.w g.K g.ca G ι
def tE (g : GX) (W : XW) (m : ME) : TE := fun σ H Q => ∃ G ι e h, RS g.w g.K g.ca G ι σ e ∧ RH g.w g.K g.ca G ι H h ∧ PostR g W σ (RpE g) G ι (m e h) Q
def tT (g : GX) (W : XW) (m : MT) : TT := fun σ H Q => ∃ G ι e h, RS g.w g.K g.ca G ι σ e ∧ RH g.w g.K g.ca G ι H h ∧ PostR g W σ (fun _ _ (b c : Bool) => b = c) G ι (m e h) Q
def tA (g : GX) (W : XW) (m : MA) : TA := fun σ H Q => ∃ G ι e h, RS g.w g.K g.ca G ι σ e ∧ RH g.w g.K g.ca G ι H h ∧ PostR g W σ (RpA g) G ι (m e h) Q
def PostS (g : GX) (W : XW) (G : GP) (ι : List Addr) (r : SRes) (D : Ends) : Prop :=
  match r with
  | .nx e h => ∀ G' ι' H' σ', Gr G ι G' ι' → RH g.w g.K g.ca G' ι' H' h → RS g.w g.K g.ca G' ι' σ' e → D.nx σ' H'
  | .bk e h => ∀ G' ι' H' σ', Gr G ι G' ι' → RH g.w g.K g.ca G' ι' H' h → RS g.w g.K g.ca G' ι' σ' e → D.bk σ' H'
  | .ct e h => ∀ G' ι' H' σ', Gr G ι G' ι' → RH g.w g.K g.ca G' ι' H' h → RS g.w g.K g.ca G' ι' σ' e → D.ct σ' H'
  | .rt v h => ∀ G' ι' H' x, Gr G ι G' ι' → RH g.w g.K g.ca G' ι' H' h → Rep g.w g.K g.ca G' ι' v x → D.rt x H'
  | .ex c e h => ∀ G' ι' H' σ', Gr G ι G' ι' → RH g.w g.K g.ca G' ι' H' h → RS g.w g.K g.ca G' ι' σ' e → W c σ' H'
  | .bad => False
def tS (g : GX) (W : XW) (m : MS) : TS := fun D σ H => ∃ G ι e h, RS g.w g.K g.ca G ι σ e ∧ RH g.w g.K g.ca G ι H h ∧ PostS g W G ι (m e h) D
/-- the code keeps the reading, in every block of that scope -/
def SE (g : GX) (N : List Str) (sc : SC) (k : Nat) (e : Expr) (m : ME) : Prop := ∀ X W, At g N sc k X W → PE X e (tE g W m)
def ST (g : GX) (N : List Str) (sc : SC) (k : Nat) (e : Expr) (m : MT) : Prop := ∀ X W, At g N sc k X W → PT X e (tT g W m)
def SW (g : GX) (N : List Str) (sc : SC) (k : Nat) (e : Expr) (m : MT) : Prop := ∀ X W, At g N sc k X W → PW X e (tT g W m)
def SA (g : GX) (N : List Str) (sc : SC) (k : Nat) (es : List Expr) (m : MA) : Prop := ∀ X W, At g N sc k X W → PA X es (tA g W m)
def SS (g : GX) (N : List Str) (sc : SC) (k : Nat) (st : Stmt) (m : MS) : Prop := ∀ X W, At g N sc k X W → PS X st (tS g W m)
def SB (g : GX) (N : List Str) (sc : SC) (k : Nat) (st : List Stmt) (m : MS) : Prop := ∀ X W, At g N sc k X W → PSs X st (tS g W m)
/-- going on -/
theorem PostR.bind {α β γ δ : Type} {g : GX} {W : XW} {σ : St} {R : GP → List Addr → α → β → Prop} {R' : GP → List Addr → γ → δ → Prop} {G : GP} {ι : List Addr} {r : Res α} {f : α → Hm → Res γ} {Q : β → Hp → Prop} {Q' : δ → Hp → Prop}
    (p : PostR g W σ R' G ι (r.bind f) Q') (h : ∀ v h', r = .ok v h' → ∀ G' ι' H' x, Gr G ι G' ι' → RH g.w g.K g.ca G' ι' H' h' → R G' ι' v x → PostR g W σ R' G' ι' (f v h') Q' → Q x H') : PostR g W σ R G ι r Q := by
  cases r with
  | ok v h' =>
    intro G' ι' H' x gr rh rx
    refine h v h' rfl G' ι' H' x gr rh rx ?_
    have p' : PostR g W σ R' G ι (f v h') Q' := p
    cases hf : f v h' with
    | ok v2 h2 => rw [hf] at p'; exact fun G2 ι2 H2 x2 gr2 rh2 rx2 => p' G2 ι2 H2 x2 (gr.trans gr2) rh2 rx2
    | exc c h2 => rw [hf] at p'; exact fun G2 ι2 H2 gr2 rh2 => p' G2 ι2 H2 (gr.trans gr2) rh2
    | bad => rw [hf] at p'; exact p'
  | exc c h' => exact p
  | bad => exact p
end MP
end L2

set_option Elab.async false
set_option linter.all false
set_option maxRecDepth 100000
set_option maxHeartbeats 2000000
namespace L2
namespace MP
open PySem PySem.Spec PyProof.Rows
def LIM : Nat := 16777216
theorem lim_eq : sizeLine = LIM := sizeLine_eq

/-! ### data -/
mutual
def D.pd : D → Option PyData
  | .non => some .none
  | .bl b => some (.bool b)
  | .int i => some (.int i)
  | .str s => some (.str ⟨s.toArray⟩)
  | .tup xs => (D.pds xs).map .tuple
  | .lst xs => (D.pds xs).map .list
  | _ => none
def D.pds : List D → Option (List PyData)
  | [] => some []
  | x :: xs => match D.pd x, D.pds xs with
    | some k, some ks => some (k :: ks)
    | _, _ => none
end
mutual
def D.plain : D → Nat → Bool
  | .non, _ => true
  | .bl _, _ => true
  | .int _, _ => true
  | .str s, _ => s.all (fun c => decide (c < 1114112))
  | .tup xs, n + 1 => D.plains xs n
  | .lst xs, n + 1 => D.plains xs n
  | _, _ => false
def D.plains : List D → Nat → Bool
  | [], _ => true
  | x :: xs, n => D.plain x n && D.plains xs n
end
mutual
def D.eqv : D → D → Bool
  | .non, .non => true
  | .bl a, .bl b => a == b
  | .bl a, .int j => (if a then 1 else 0) == j
  | .int i, .bl b => i == (if b then 1 else 0)
  | .int i, .int j => i == j
  | .str s, .str t => s == t
  | .tup xs, .tup ys => D.eqvs xs ys
  | .lst xs, .lst ys => D.eqvs xs ys
  | _, _ => false
def D.eqvs : List D → List D → Bool
  | [], [] => true
  | x :: xs, y :: ys => D.eqv x y && D.eqvs xs ys
  | _, _ => false
end
theorem pds_cons {x : D} {xs : List D} {p : PyData} {ps : List PyData} (h : D.pd x = some p) (h' : D.pds xs = some ps) : D.pds (x :: xs) = some (p :: ps) := by
  simp [D.pds, h, h']
mutual
theorem D.plain_pd : ∀ (d : D) (n : Nat), D.plain d n = true → ∃ p, D.pd d = some p ∧ p.depth ≤ n ∧ p.canLay0 = true
  | .non, n, _ => ⟨_, rfl, by simp [PyData.depth], by simp [PyData.canLay0]⟩
  | .bl b, n, _ => ⟨_, rfl, by simp [PyData.depth], by simp [PyData.canLay0]⟩
  | .int i, n, _ => ⟨_, rfl, by simp [PyData.depth], by simp [PyData.canLay0]⟩
  | .str s, n, h => ⟨_, rfl, by simp [PyData.depth], by
      simp only [D.plain] at h
      simp only [PyData.canLay0, PyData.strOk]
      simpa using h⟩
  | .tup xs, n, h => by
    cases n with
    | zero => simp [D.plain] at h
    | succ n =>
      obtain ⟨ps, e, hd, hc⟩ := D.plains_pd xs n (by simpa [D.plain] using h)
      exact ⟨.tuple ps, by simp [D.pd, e], by simp only [PyData.depth]; omega, by simpa [PyData.canLay0] using hc⟩
  | .lst xs, n, h => by
    cases n with
    | zero => simp [D.plain] at h
    | succ n =>
      obtain ⟨ps, e, hd, hc⟩ := D.plains_pd xs n (by simpa [D.plain] using h)
      exact ⟨.list ps, by simp [D.pd, e], by simp only [PyData.depth]; omega, by simpa [PyData.canLay0] using hc⟩
  | .dct _, n, h => by simp [D.plain] at h
  | .ins _ _, n, h => by simp [D.plain] at h
  | .loc _, n, h => by simp [D.plain] at h
  | .cls _, n, h => by simp [D.plain] at h
  | .exn _, n, h => by simp [D.plain] at h
  | .lam _ _, n, h => by simp [D.plain] at h
  | .scr _, n, h => by simp [D.plain] at h
  | .ty _, n, h => by simp [D.plain] at h
theorem D.plains_pd : ∀ (d : List D) (n : Nat), D.plains d n = true → ∃ p, D.pds d = some p ∧ PyData.depthAll p ≤ n ∧ PyData.canLayAll0 p = true
  | [], n, _ => ⟨[], rfl, by simp [PyData.depthAll], by simp [PyData.canLayAll0]⟩
  | x :: xs, n, h => by
    simp only [D.plains, Bool.and_eq_true] at h
    obtain ⟨p, e, hd, hc⟩ := D.plain_pd x n h.1
    obtain ⟨ps, e', hd', hc'⟩ := D.plains_pd xs n h.2
    exact ⟨p :: ps, pds_cons e e', by simp only [PyData.depthAll]; omega, by simp [PyData.canLayAll0, hc, hc']⟩
end
theorem D.plain_shaped {d : D} (h : D.plain d 60 = true) : ∃ p, D.pd d = some p ∧ SeqAt.shaped p = true := by
  obtain ⟨p, e, h1, h2⟩ := D.plain_pd d 60 h
  exact ⟨p, e, by unfold SeqAt.shaped; rw [h2, decide_eq_true (by omega : p.depth ≤ 64)]; rfl⟩
theorem str_beq (s t : List Nat) : ((⟨s.toArray⟩ : Str) == ⟨t.toArray⟩) = (s == t) := by
  rw [Bool.eq_iff_iff]; simp
mutual
theorem D.eqv_pd : ∀ (a b : D) (p q : PyData), D.pd a = some p → D.pd b = some q → PyData.eqv p q = D.eqv a b
  | .non, b, p, q, h, h' => by
    cases b <;> simp [D.pd] at h h' <;> (try obtain ⟨_, _, rfl⟩ := h') <;> (try subst h) <;> (try subst h') <;> simp [PyData.eqv, D.eqv]
  | .bl _, b, p, q, h, h' => by
    cases b <;> simp [D.pd] at h h' <;> (try obtain ⟨_, _, rfl⟩ := h') <;> (try subst h) <;> (try subst h') <;> simp [PyData.eqv, D.eqv]
  | .int _, b, p, q, h, h' => by
    cases b <;> simp [D.pd] at h h' <;> (try obtain ⟨_, _, rfl⟩ := h') <;> (try subst h) <;> (try subst h') <;> simp [PyData.eqv, D.eqv]
  | .str s, b, p, q, h, h' => by
    cases b <;> simp [D.pd] at h h' <;> (try obtain ⟨_, _, rfl⟩ := h') <;> (try subst h) <;> (try subst h') <;> simp [PyData.eqv, D.eqv, str_beq]
  | .tup xs, b, p, q, h, h' => by
    simp only [D.pd, Option.map_eq_some_iff] at h
    obtain ⟨ps, e, rfl⟩ := h
    cases b with
    | tup ys =>
      simp only [D.pd, Option.map_eq_some_iff] at h'
      obtain ⟨qs, e', rfl⟩ := h'
      simp only [PyData.eqv, D.eqv]
      exact D.eqvs_pd xs ys ps qs e e'
    | _ => simp [D.pd] at h' <;> (try obtain ⟨_, _, rfl⟩ := h') <;> (try subst h') <;> simp [PyData.eqv, D.eqv]
  | .lst xs, b, p, q, h, h' => by
    simp only [D.pd, Option.map_eq_some_iff] at h
    obtain ⟨ps, e, rfl⟩ := h
    cases b with
    | lst ys =>
      simp only [D.pd, Option.map_eq_some_iff] at h'
      obtain ⟨qs, e', rfl⟩ := h'
      simp only [PyData.eqv, D.eqv]
      exact D.eqvs_pd xs ys ps qs e e'
    | _ => simp [D.pd] at h' <;> (try obtain ⟨_, _, rfl⟩ := h') <;> (try subst h') <;> simp [PyData.eqv, D.eqv]
  | .dct _, _, _, _, h, _ => by simp [D.pd] at h
  | .ins _ _, _, _, _, h, _ => by simp [D.pd] at h
  | .loc _, _, _, _, h, _ => by simp [D.pd] at h
  | .cls _, _, _, _, h, _ => by simp [D.pd] at h
  | .exn _, _, _, _, h, _ => by simp [D.pd] at h
  | .lam _ _, _, _, _, h, _ => by simp [D.pd] at h
  | .scr _, _, _, _, h, _ => by simp [D.pd] at h
  | .ty _, _, _, _, h, _ => by simp [D.pd] at h
theorem D.eqvs_pd : ∀ (a b : List D) (p q : List PyData), D.pds a = some p → D.pds b = some q → PyData.eqvAll p q = D.eqvs a b
  | [], [], p, q, h, h' => by
    simp [D.pds] at h h'; subst h h'; simp [PyData.eqvAll, D.eqvs]
  | [], y :: ys, p, q, h, h' => by
    simp only [D.pds] at h h'
    cases h
    split at h'
    · cases h'; simp [PyData.eqvAll, D.eqvs]
    · cases h'
  | x :: xs, [], p, q, h, h' => by
    simp only [D.pds] at h h'
    cases h'
    split at h
    · cases h; simp [PyData.eqvAll, D.eqvs]
    · cases h
  | x :: xs, y :: ys, p, q, h, h' => by
    simp only [D.pds] at h h'
    split at h
    · rename_i p1 p2 e1 e2
      cases h
      split at h'
      · rename_i q1 q2 f1 f2
        cases h'
        simp only [PyData.eqvAll, D.eqvs]
        rw [D.eqv_pd x y p1 q1 e1 f1, D.eqvs_pd xs ys p2 q2 e2 f2]
      · cases h'
    · cases h
end
section
variable {w : World} {K : PySem.W.Frag} {ca : Nat → Option Addr} {G : GP} {H : Hp} {ι : List Addr}
mutual
theorem Rep.dp (s : Same G.f H) : ∀ {d : D} {v : V} {p : PyData}, Rep w K ca G ι d v → D.pd d = some p → Dp K H v p
  | _, _, p, .non, h => by simp [D.pd] at h; subst h; exact .non
  | _, _, p, .bl b, h => by simp [D.pd] at h; subst h; exact .bl b
  | _, _, p, .int i, h => by simp [D.pd] at h; subst h; exact .int i
  | _, _, p, .str t, h => by simp [D.pd] at h; subst h; exact .str _
  | _, _, p, .tup q r, h => by
    simp only [D.pd, Option.map_eq_some_iff] at h
    obtain ⟨ps, e, rfl⟩ := h
    exact .tup (same_sqT s q) (r.dps s e)
  | _, _, p, .lst q r, h => by
    simp only [D.pd, Option.map_eq_some_iff] at h
    obtain ⟨ps, e, rfl⟩ := h
    exact .lst (SqL.of (s _ _ q)) (r.dps s e)
  | _, _, p, .dct _ _ _ _, h => by simp [D.pd] at h
  | _, _, p, .ins _ _ _, h => by simp [D.pd] at h
  | _, _, p, .loc _, h => by simp [D.pd] at h
  | _, _, p, .cls _, h => by simp [D.pd] at h
  | _, _, p, .scr _, h => by simp [D.pd] at h
  | _, _, p, .ty _, h => by simp [D.pd] at h
theorem RepL.dps (s : Same G.f H) : ∀ {d : List D} {v : List V} {p : List PyData}, RepL w K ca G ι d v → D.pds d = some p → DpAll K H v p
  | _, _, p, .nil, h => by simp [D.pds] at h; subst h; exact .nil
  | _, _, p, .cons a b, h => by
    simp only [D.pds] at h
    split at h
    · rename_i e1 e2
      cases h
      exact .cons (a.dp s e1) (b.dps s e2)
    · cases h
end
end

/-! ### lifting rules -/
theorem _root_.L2.PE.imp {X : Cx} {e : Expr} {t t' : TE} (h : PE X e t) (w : ∀ σ H Q, t' σ H Q → t σ H Q) : PE X e t' := ⟨fun pins s σ H Q I q => h.run pins s σ H Q I (w _ _ _ q)⟩
theorem _root_.L2.PT.imp {X : Cx} {e : Expr} {t t' : TT} (h : PT X e t) (w : ∀ σ H Q, t' σ H Q → t σ H Q) : PT X e t' := ⟨fun pins s σ H Q I q => h.run pins s σ H Q I (w _ _ _ q)⟩
theorem _root_.L2.PW.imp {X : Cx} {e : Expr} {t t' : TT} (h : PW X e t) (w : ∀ σ H Q, t' σ H Q → t σ H Q) : PW X e t' := ⟨fun wh pins s σ H Q I q => h.run wh pins s σ H Q I (w _ _ _ q)⟩
theorem _root_.L2.PA.imp {X : Cx} {e : List Expr} {t t' : TA} (h : PA X e t) (w : ∀ σ H Q, t' σ H Q → t σ H Q) : PA X e t' := ⟨fun p pins s σ H Q I q => h.run p pins s σ H Q I (w _ _ _ q)⟩
theorem _root_.L2.PS.imp {X : Cx} {e : Stmt} {t t' : TS} (h : PS X e t) (w : ∀ D σ H, t' D σ H → t D σ H) : PS X e t' := ⟨fun pins s σ H D I q => h.run pins s σ H D I (w _ _ _ q)⟩
theorem _root_.L2.PSs.imp {X : Cx} {e : List Stmt} {t t' : TS} (h : PSs X e t) (w : ∀ D σ H, t' D σ H → t D σ H) : PSs X e t' := ⟨fun pins s σ H D I q => h.run pins s σ H D I (w _ _ _ q)⟩
section
variable {g : GX} {N : List Str} {sc : SC} {k : Nat} {W : XW} {σ : St} {G : GP} {ι : List Addr} {H : Hp} {h : Hm} {ev : Ev}
theorem tE_go {γ δ : Type} {m : ME} {f : D → Hm → Res γ} {R' : GP → List Addr → γ → δ → Prop} {Q' : δ → Hp → Prop} {Q : VK} (rs : RS g.w g.K g.ca G ι σ ev) (rh : RH g.w g.K g.ca G ι H h) (p : PostR g W σ R' G ι ((m ev h).bind f) Q')
    (k : ∀ v h' G' ι' H' x, m ev h = .ok v h' → Gr G ι G' ι' → RH g.w g.K g.ca G' ι' H' h' → RS g.w g.K g.ca G' ι' σ ev → Rep g.w g.K g.ca G' ι' v x → PostR g W σ R' G' ι' (f v h') Q' → Q x H') : tE g W m σ H Q :=
  ⟨G, ι, ev, h, rs, rh, p.bind fun v h' e G' ι' H' x gr rh' rx p' => k v h' G' ι' H' x e gr rh' (rs.mono gr.s gr.p) rx p'⟩
theorem tT_go {γ δ : Type} {m : MT} {f : Bool → Hm → Res γ} {R' : GP → List Addr → γ → δ → Prop} {Q' : δ → Hp → Prop} {Q : Bool → Hp → Prop} (rs : RS g.w g.K g.ca G ι σ ev) (rh : RH g.w g.K g.ca G ι H h) (p : PostR g W σ R' G ι ((m ev h).bind f) Q')
    (k : ∀ v h' G' ι' H', m ev h = .ok v h' → Gr G ι G' ι' → RH g.w g.K g.ca G' ι' H' h' → RS g.w g.K g.ca G' ι' σ ev → PostR g W σ R' G' ι' (f v h') Q' → Q v H') : tT g W m σ H Q :=
  ⟨G, ι, ev, h, rs, rh, p.bind fun v h' e G' ι' H' x gr rh' rx p' => by subst rx; exact k v h' G' ι' H' e gr rh' (rs.mono gr.s gr.p) p'⟩
theorem tA_go {γ δ : Type} {m : MA} {f : List D → Hm → Res γ} {R' : GP → List Addr → γ → δ → Prop} {Q' : δ → Hp → Prop} {Q : List V → Hp → Prop} (rs : RS g.w g.K g.ca G ι σ ev) (rh : RH g.w g.K g.ca G ι H h) (p : PostR g W σ R' G ι ((m ev h).bind f) Q')
    (k : ∀ v h' G' ι' H' x, m ev h = .ok v h' → Gr G ι G' ι' → RH g.w g.K g.ca G' ι' H' h' → RS g.w g.K g.ca G' ι' σ ev → RepL g.w g.K g.ca G' ι' v x → PostR g W σ R' G' ι' (f v h') Q' → Q x H') : tA g W m σ H Q :=
  ⟨G, ι, ev, h, rs, rh, p.bind fun v h' e G' ι' H' x gr rh' rx p' => k v h' G' ι' H' x e gr rh' (rs.mono gr.s gr.p) rx p'⟩
/-- a value is handed on as it is, at the same state -/
theorem PostR.here {α β : Type} {R : GP → List Addr → α → β → Prop} {v : α} {x : β} {Q : β → Hp → Prop} (p : PostR g W σ R G ι (.ok v h) Q) (rh : RH g.w g.K g.ca G ι H h) (r : R G ι v x) : Q x H := p G ι H x Gr.refl rh r

def m1 (F : D → Hm → Res D) (a : ME) : ME := fun e h => (a e h).bind F
def m2 (F : D → D → Hm → Res D) (a b : ME) : ME := fun e h => (a e h).bind fun x h1 => (b e h1).bind fun y h2 => F x y h2
def mL (F : List D → Hm → Res D) (a : MA) : ME := fun e h => (a e h).bind F
def Ok1 (g : GX) (r : V → Hp → VK → Prop) (F : D → Hm → Res D) : Prop :=
  ∀ W σ G ι H h a x Q, RH g.w g.K g.ca G ι H h → Rep g.w g.K g.ca G ι a x → PostR g W σ (RpE g) G ι (F a h) Q → r x H Q
def Ok2 (g : GX) (r : R2) (F : D → D → Hm → Res D) : Prop :=
  ∀ W σ G ι H h a b x y Q, RH g.w g.K g.ca G ι H h → Rep g.w g.K g.ca G ι a x → Rep g.w g.K g.ca G ι b y → PostR g W σ (RpE g) G ι (F a b h) Q → r x y H Q
def OkL (g : GX) (r : List V → Hp → VK → Prop) (F : List D → Hm → Res D) : Prop :=
  ∀ W σ G ι H h a x Q, RH g.w g.K g.ca G ι H h → RepL g.w g.K g.ca G ι a x → PostR g W σ (RpE g) G ι (F a h) Q → r x H Q
theorem tOp_of {r : R2} {F : D → D → Hm → Res D} {ma mb : ME} (ok : Ok2 g r F) {Q : VK} (q : tE g W (m2 F ma mb) σ H Q) : tOp r (tE g W ma) (tE g W mb) σ H Q := by
  obtain ⟨G, ι, e, h, rs, rh, p⟩ := q
  refine tE_go rs rh p fun v h1 G1 ι1 H1 x _ gr rh1 rs1 rx p1 => tE_go rs1 rh1 p1 fun v2 h2 G2 ι2 H2 y _ gr2 rh2 rs2 ry p2 => ?_
  exact ok W σ G2 ι2 H2 h2 v v2 x y Q rh2 (rx.mono gr2.s gr2.p) ry p2
theorem se_op {op : Operator} {F : D → D → Hm → Res D} {a b : Expr} {ma mb : ME} {pos : Pos} (ho : ∀ X W, At g N sc k X W → ∃ r, OpR X (binaryOp op) r ∧ Ok2 g r F) (ha : SE g N sc k a ma) (hb : SE g N sc k b mb) : SE g N sc k (.BinOp a op b pos) (m2 F ma mb) := fun X W c => by
  obtain ⟨r, h1, h2⟩ := ho X W c
  exact (pe_op h1 (ha X W c) (hb X W c)).imp fun σ H Q q => tOp_of h2 q
theorem se_un {op : UnaryOp} {F : D → Hm → Res D} {a : Expr} {ma : ME} {pos : Pos} (ho : ∀ X W, At g N sc k X W → ∃ r, UnR X (unaryOp op) r ∧ Ok1 g r F) (ha : SE g N sc k a ma) : SE g N sc k (.UnaryOp op a pos) (m1 F ma) := fun X W c => by
  obtain ⟨r, h1, h2⟩ := ho X W c
  refine (pe_un h1 (ha X W c)).imp fun σ H Q q => ?_
  obtain ⟨G, ι, e, h, rs, rh, p⟩ := q
  exact tE_go rs rh p fun v h1 G1 ι1 H1 x _ gr rh1 rs1 rx p1 => h2 W σ G1 ι1 H1 h1 v x Q rh1 rx p1
theorem se_cmp {op : CmpOp} {F : D → D → Hm → Res D} {a b : Expr} {ma mb : ME} {pos : Pos} (ho : ∀ X W, At g N sc k X W → ∃ r, OpR X (compareOp op) r ∧ Ok2 g r F) (ha : SE g N sc k a ma) (hb : SE g N sc k b mb) (hm : behindInMarks op b = false := by first | exact nomark _ | rfl) : SE g N sc k (.Compare a [op] [b] pos) (m2 F ma mb) := fun X W c => by
  obtain ⟨r, h1, h2⟩ := ho X W c
  exact (pe_cmpR h1 (ha X W c) (hb X W c) hm).imp fun σ H Q q => tOp_of h2 q
/-- a value's bool as a test -/
def mB (a : ME) : MT := fun e h => (a e h).bind fun x h1 => match x with | .bl b => .ok b h1 | _ => .bad
theorem tTest_of {a : ME} {t : TE} (ht : ∀ σ H Q, tE g W a σ H Q → t σ H Q) {Q : Bool → Hp → Prop} (q : tT g W (mB a) σ H Q) : tTest t σ H Q := by
  obtain ⟨G, ι, e, h, rs, rh, p⟩ := q
  refine ht _ _ _ (tE_go rs rh p fun v h1 G1 ι1 H1 x _ gr rh1 rs1 rx p1 => ?_)
  cases rx with
  | bl b => exact ⟨b, rfl, p1.here (x := b) rh1 rfl⟩
  | _ => exact False.elim p1
theorem st_cmp {op : CmpOp} {F : D → D → Hm → Res D} {a b : Expr} {ma mb : ME} {pos : Pos} (ho : ∀ X W, At g N sc k X W → ∃ r, OpR X (compareOp op) r ∧ Ok2 g r F) (ha : SE g N sc k a ma) (hb : SE g N sc k b mb) (hm : behindInMarks op b = false := by first | exact nomark _ | rfl) : ST g N sc k (.Compare a [op] [b] pos) (mB (m2 F ma mb)) := fun X W c => by
  obtain ⟨r, h1, h2⟩ := ho X W c
  exact (pt_cmpR h1 (ha X W c) (hb X W c) hm).imp fun σ H Q q => tTest_of (fun _ _ _ z => tOp_of h2 z) q

/-! ### names and constants -/
def mVar (i : Nat) : ME := fun e h => match e[i]? with | some (some d) => .ok d h | _ => .bad
def mC (d : D) : ME := fun _ h => .ok d h
def mNo : ME := fun _ _ => .bad
theorem se_var (i : Nat) {x : Str} {pos : Pos} (hN : N[i]? = some x := by rfl) (hv : Vis sc.scope x := by first | exact Or.inl rfl | exact Or.inr (Or.inl rfl) | exact Or.inr (Or.inr rfl)) (hd : (x == ("__debug__" : Str)) = false := by decide)
    (hcd : (x == ("__classdict__" : Str)) = false := by decide) : SE g N sc k (.Name x pos) (mVar i) := fun X W c => by
  refine (pe_var (X := X) (i := i) (by rw [c.eN]; exact hN) (by rw [c.es]; exact hv) hd hcd).imp fun σ H Q q => ?_
  obtain ⟨G, ι, e, h, rs, rh, p⟩ := q
  unfold mVar at p
  split at p
  · rename_i d hd'
    obtain ⟨v, h1, h2⟩ := rs.val i d hd'
    exact ⟨v, h1, p.here rh h2⟩
  · exact p.elim
theorem tC_of {d : D} {v : V} {Q : VK} (r : ∀ G ι, Rep g.w g.K g.ca G ι d v) (q : tE g W (mC d) σ H Q) : tC v σ H Q := by
  obtain ⟨G, ι, e, h, rs, rh, p⟩ := q
  exact p.here rh (r G ι)
theorem se_int {i : Int} {j : Nat} {pos : Pos} : SE g N sc k (.Constant (.int i) j pos) (mC (.int i)) := fun X W c => pe_int.imp fun _ _ _ q => tC_of (fun _ _ => .int i) q
theorem se_bl {i : Bool} {j : Nat} {pos : Pos} : SE g N sc k (.Constant (.bool i) j pos) (mC (.bl i)) := fun X W c => pe_bl.imp fun _ _ _ q => tC_of (fun _ _ => .bl i) q
theorem se_non {j : Nat} {pos : Pos} : SE g N sc k (.Constant .none j pos) (mC .non) := fun X W c => pe_non.imp fun _ _ _ q => tC_of (fun _ _ => .non) q
theorem se_str {x : Str} {j : Nat} {pos : Pos} : SE g N sc k (.Constant (.str x) j pos) (mC (.str x.cps.toList)) := fun X W c => pe_str.imp fun _ _ _ q => tC_of (fun _ _ => .str _) q
/-- a name of the module -/
theorem se_glob {x : Str} {d : D} {v : V} {u : Value} {pos : Pos} (hm : g.mg x = some u) (ru : RelV v u) (r : ∀ G ι, Rep g.w g.K g.ca G ι d v) (hg : sc.names.lookup x = some .globalImplicit := by rfl) (hd : (x == ("__debug__" : Str)) = false := by decide) : SE g N sc k (.Name x pos) (mC d) := fun X W c =>
  (pe_glob (X := X) (by show X.env.scope.names.lookup x = _; rw [c.es]; exact hg) (by rw [c.em]; exact hm) ru hd).imp fun _ _ _ q => tC_of r q
theorem se_no {e : Expr} : SE g N sc k e mNo := fun X W c => ⟨fun pins s σ H Q I q => by obtain ⟨G, ι, e, h, rs, rh, p⟩ := q; exact p.elim⟩
end
end MP
end L2

set_option Elab.async false
set_option linter.all false
set_option maxRecDepth 100000
set_option maxHeartbeats 2000000
namespace L2
namespace MP
open PySem PySem.Spec PyProof.Rows
section
variable {w : World} {K : PySem.W.Frag} {ca : Nat → Option Addr} {G : GP} {H : Hp} {ι : List Addr} {h : Hm}
theorem same_upd {H : Hp} {p : Addr} {o : HO} (hp : H p = none) : Same H (upd H p o) := fun b u e => by rw [upd_ne (ne_of_none e hp)]; exact e
/-- what stays, with one more -/
def GP.put (G : GP) (a : Addr) (o : HO) : GP := ⟨upd G.f a o, G.p⟩
theorem RH.fz (r : RH w K ca G ι H h) {p : Addr} {o : HO} (hp : H p = none) : Gr G ι (G.put p o) ι ∧ RH w K ca (G.put p o) ι (upd H p o) h := by
  have hg : G.f p = none := r.le.free hp
  refine ⟨⟨same_upd hg, List.prefix_refl _, rfl⟩, fun b u e => ?_, fun b u e => ?_, fun b u e => ?_, r.len, fun l mo e => ?_, r.inj⟩
  · by_cases hb : b = p
    · subst hb
      have e : upd G.f b o b = some u := e
      rw [upd_same] at e ⊢; exact e
    · have e : upd G.f p o b = some u := e
      rw [upd_ne hb] at e ⊢; exact r.le b u e
  · rw [upd_ne (ne_of_none (r.pin b u e) hp)]; exact r.pin b u e
  · show upd G.f p o b = none
    rw [upd_ne (ne_of_none (r.pin b u e) hp)]; exact r.dis b u e
  · obtain ⟨a, u, h1, h2, h3, h4⟩ := r.obj l mo e
    have ha : a ≠ p := ne_of_none h3 hp
    exact ⟨a, u, h1, ⟨by show upd G.f p o a = none; rw [upd_ne ha]; exact h2.1, h2.2⟩, by rw [upd_ne ha]; exact h3, h4.mono (same_upd hg) (List.prefix_refl _)⟩
theorem Hm.get_lt {h : Hm} {l : Nat} {o : MO} (e : h.get l = some o) : l < h.length := by
  unfold Hm.get at e
  by_cases hl : l < h.length
  · exact hl
  · rw [List.getElem?_eq_none (by omega)] at e; cases e
theorem Hm.get_app {h : Hm} {l : Nat} {o : Option MO} : Hm.get (h ++ [o]) l = if l = h.length then o else h.get l := by
  unfold Hm.get
  by_cases hl : l < h.length
  · rw [List.getElem?_append_left hl, if_neg (by omega)]
  · by_cases he : l = h.length
    · subst he; rw [if_pos rfl]; simp
    · rw [if_neg he, List.getElem?_eq_none (by simp; omega), List.getElem?_eq_none (by omega)]
theorem Hm.get_set {h : Hm} {l j : Nat} {o : Option MO} (hl : l < h.length) : Hm.get (h.set l o) j = if j = l then o else h.get j := by
  unfold Hm.get
  by_cases he : j = l
  · subst he; rw [if_pos rfl, List.getElem?_set_self hl]; rfl
  · rw [if_neg he, List.getElem?_set_ne (Ne.symm he)]
theorem RH.new (r : RH w K ca G ι H h) {p : Addr} {o : HO} {mo : MO} (hp : H p = none) (ro : RepO w K ca G ι p mo o) : Gr G ι G (ι ++ [p]) ∧ RH w K ca G (ι ++ [p]) (upd H p o) (h ++ [some mo]) := by
  have hg : G.f p = none := r.le.free hp
  have pre : ι <+: ι ++ [p] := List.prefix_append _ _
  refine ⟨⟨Same.refl _, pre, rfl⟩, fun b u e => by rw [upd_ne (ne_of_none e hg)]; exact r.le b u e, fun b u e => by rw [upd_ne (ne_of_none (r.pin b u e) hp)]; exact r.pin b u e, r.dis, by simp [r.len], fun l mo' e => ?_, fun l l' o1 o2 a e1 e2 i1 i2 => ?_⟩
  · rw [Hm.get_app] at e
    split at e
    · rename_i hl
      cases e
      exact ⟨p, o, by rw [hl, ← r.len]; simp, ⟨hg, r.pin.free hp⟩, upd_same, ro.mono (Same.refl _) pre⟩
    · obtain ⟨a, u, h1, h2, h3, h4⟩ := r.obj l mo' e
      exact ⟨a, u, pre_get pre h1, h2, by rw [upd_ne (ne_of_none h3 hp)]; exact h3, h4.mono (Same.refl _) pre⟩
  · have old : ∀ {l : Nat} {o : MO} {a : Addr}, h.get l = some o → (ι ++ [p])[l]? = some a → ι[l]? = some a ∧ a ≠ p := fun {l o a} e i => by
      obtain ⟨a', u, h1, h2, h3, h4⟩ := r.obj l o e
      rw [pre_get pre h1] at i
      cases i
      exact ⟨h1, ne_of_none h3 hp⟩
    have nw : ∀ {a : Addr}, (ι ++ [p])[h.length]? = some a → a = p := fun {a} i => by
      rw [← r.len] at i
      simp at i
      exact i.symm
    rw [Hm.get_app] at e1 e2
    split at e1
    · rename_i hl
      split at e2
      · rename_i hl'
        rw [hl, hl']
      · rw [hl] at i1
        exact absurd (nw i1) (old e2 i2).2
    · split at e2
      · rename_i hl'
        rw [hl'] at i2
        exact absurd (nw i2) (old e1 i1).2
      · exact r.inj l l' o1 o2 a e1 e2 (old e1 i1).1 (old e2 i2).1
theorem RH.wr (r : RH w K ca G ι H h) {l : Nat} {a : Addr} {mo mo' : MO} {o' : HO} (hl : h.get l = some mo) (hi : ι[l]? = some a) (ro : RepO w K ca G ι a mo' o') : RH w K ca G ι (upd H a o') (h.set l (some mo')) := by
  have hlt := Hm.get_lt hl
  obtain ⟨a', u, h1, h2, h3, h4⟩ := r.obj l mo hl
  rw [hi] at h1; cases h1
  refine ⟨fun b v e => by rw [upd_ne (ne_of_none e h2.1)]; exact r.le b v e, fun b v e => by rw [upd_ne (ne_of_none e h2.2)]; exact r.pin b v e, r.dis, by simp [r.len], fun j mo2 e => ?_, fun j j' o1 o2 b e1 e2 i1 i2 => ?_⟩
  · rw [Hm.get_set hlt] at e
    split at e
    · rename_i hj
      subst hj
      cases e
      exact ⟨a, o', hi, h2, upd_same, ro⟩
    · rename_i hj
      obtain ⟨b, v, g1, g2, g3, g4⟩ := r.obj j mo2 e
      have hb : b ≠ a := fun z => by
        subst z
        exact hj (r.inj j l _ _ b e hl g1 hi)
      exact ⟨b, v, g1, g2, by rw [upd_ne hb]; exact g3, g4⟩
  · have live : ∀ {j : Nat} {o : MO}, Hm.get (h.set l (some mo')) j = some o → ∃ o2, h.get j = some o2 := fun {j o} e => by
      rw [Hm.get_set hlt] at e
      split at e
      · rename_i hj; subst hj; exact ⟨_, hl⟩
      · exact ⟨_, e⟩
    obtain ⟨o3, e3⟩ := live e1
    obtain ⟨o4, e4⟩ := live e2
    exact r.inj j j' _ _ b e3 e4 i1 i2
/-- forgetting a place -/
theorem RH.drop (r : RH w K ca G ι H h) (l : Nat) : RH w K ca G ι H (h.set l none) := by
  by_cases hlt : l < h.length
  · refine ⟨r.le, r.pin, r.dis, by simp [r.len], fun j mo2 e => ?_, fun j j' o1 o2 b e1 e2 i1 i2 => ?_⟩
    · rw [Hm.get_set hlt] at e
      split at e
      · cases e
      · exact r.obj j mo2 e
    · rw [Hm.get_set hlt] at e1 e2
      split at e1
      · cases e1
      · split at e2
        · cases e2
        · exact r.inj j j' _ _ b e1 e2 i1 i2
  · rw [List.set_eq_of_length_le (by omega)]; exact r
/-- a place's object will not change any more -/
theorem RH.freeze (r : RH w K ca G ι H h) {l : Nat} {a : Addr} {mo : MO} {u : HO} (hl : h.get l = some mo) (hi : ι[l]? = some a) (hu : H a = some u) : Gr G ι (G.put a u) ι ∧ RH w K ca (G.put a u) ι H (h.set l none) := by
  obtain ⟨a', u', h1, h2, h3, h4⟩ := r.obj l mo hl
  rw [hi] at h1; cases h1
  have s : Same G.f (G.put a u).f := same_upd h2.1
  have d := r.drop l
  have hlt := Hm.get_lt hl
  refine ⟨⟨s, List.prefix_refl _, rfl⟩, fun b v e => ?_, d.pin, fun b v e => ?_, d.len, fun j mo2 e => ?_, d.inj⟩
  · have e : upd G.f a u b = some v := e
    by_cases hb : b = a
    · subst hb; rw [upd_same] at e; cases e; exact hu
    · rw [upd_ne hb] at e; exact r.le b v e
  · show upd G.f a u b = none
    rw [upd_ne (ne_of_none (show G.p b = some v from e) h2.2)]; exact r.dis b v e
  · obtain ⟨b, v, g1, g2, g3, g4⟩ := d.obj j mo2 e
    have hb : b ≠ a := fun z => by
      subst z
      rw [Hm.get_set hlt] at e
      split at e
      · cases e
      · rename_i hj
        exact hj (r.inj j l _ _ b e hl g1 hi)
    exact ⟨b, v, g1, ⟨by show upd G.f a u b = none; rw [upd_ne hb]; exact g2.1, g2.2⟩, g3, g4.mono s (List.prefix_refl _)⟩
/-- .. and is told so -/
theorem RH.freezeTo (r : RH w K ca G ι H h) {l : Nat} {a : Addr} {mo : MO} {u : HO} (hl : h.get l = some mo) (hi : ι[l]? = some a) : Gr G ι (G.put a u) ι ∧ RH w K ca (G.put a u) ι (upd H a u) (h.set l none) := by
  obtain ⟨a', u', h1, h2, h3, h4⟩ := r.obj l mo hl
  rw [hi] at h1; cases h1
  have s : Same G.f (G.put a u).f := same_upd h2.1
  have d := r.drop l
  have hlt := Hm.get_lt hl
  refine ⟨⟨s, List.prefix_refl _, rfl⟩, fun b v e => ?_, fun b v e => ?_, fun b v e => ?_, d.len, fun j mo2 e => ?_, d.inj⟩
  · have e : upd G.f a u b = some v := e
    by_cases hb : b = a
    · subst hb; rw [upd_same] at e ⊢; exact e
    · rw [upd_ne hb] at e ⊢; exact r.le b v e
  · rw [upd_ne (ne_of_none (show G.p b = some v from e) h2.2)]; exact r.pin b v e
  · show upd G.f a u b = none
    rw [upd_ne (ne_of_none (show G.p b = some v from e) h2.2)]; exact r.dis b v e
  · obtain ⟨b, v, g1, g2, g3, g4⟩ := d.obj j mo2 e
    have hb : b ≠ a := fun z => by
      subst z
      rw [Hm.get_set hlt] at e
      split at e
      · cases e
      · rename_i hj
        exact hj (r.inj j l _ _ b e hl g1 hi)
    exact ⟨b, v, g1, ⟨by show upd G.f a u b = none; rw [upd_ne hb]; exact g2.1, g2.2⟩, by rw [upd_ne hb]; exact g3, g4.mono s (List.prefix_refl _)⟩
/-- nobody looks at an object for a while -/
def GP.hide (G : GP) (a : Addr) (o : HO) : GP := ⟨G.f, upd G.p a o⟩
theorem RH.hide (r : RH w K ca G ι H h) {p : Addr} {o : HO} (hp : H p = none) : RH w K ca (G.hide p o) ι (upd H p o) h := by
  refine ⟨fun b u e => ?_, fun b u e => ?_, fun b u e => ?_, r.len, fun l mo e => ?_, r.inj⟩
  · rw [upd_ne (ne_of_none (r.le b u e) hp)]; exact r.le b u e
  · have e : upd G.p p o b = some u := e
    by_cases hb : b = p
    · subst hb
      rw [upd_same] at e ⊢; exact e
    · rw [upd_ne hb] at e ⊢; exact r.pin b u e
  · have e : upd G.p p o b = some u := e
    by_cases hb : b = p
    · subst hb; exact r.le.free hp
    · rw [upd_ne hb] at e; exact r.dis b u e
  · obtain ⟨a, u, h1, h2, h3, h4⟩ := r.obj l mo e
    have ha : a ≠ p := ne_of_none h3 hp
    exact ⟨a, u, h1, ⟨h2.1, by show upd G.p p o a = none; rw [upd_ne ha]; exact h2.2⟩, by rw [upd_ne ha]; exact h3, h4.mono (show Same G.f (G.hide p o).f from Same.refl _) (List.prefix_refl _)⟩
/-- .. which is changed meanwhile -/
theorem RH.rehide {f p0 : Hp} {a : Addr} {o o' : HO} (r : RH w K ca ⟨f, upd p0 a o⟩ ι H h) : RH w K ca ⟨f, upd p0 a o'⟩ ι (upd H a o') h := by
  have hf : f a = none := r.dis a o (show upd p0 a o a = some o from upd_same)
  refine ⟨fun b u e => ?_, fun b u e => ?_, fun b u e => ?_, r.len, fun l mo e => ?_, r.inj⟩
  · rw [upd_ne (ne_of_none (show f b = some u from e) hf)]; exact r.le b u e
  · have e : upd p0 a o' b = some u := e
    by_cases hb : b = a
    · subst hb; rw [upd_same] at e ⊢; exact e
    · rw [upd_ne hb] at e ⊢; exact r.pin b u (by show upd p0 a o b = some u; rw [upd_ne hb]; exact e)
  · have e : upd p0 a o' b = some u := e
    by_cases hb : b = a
    · subst hb; exact hf
    · rw [upd_ne hb] at e; exact r.dis b u (by show upd p0 a o b = some u; rw [upd_ne hb]; exact e)
  · obtain ⟨b, u, h1, h2, h3, h4⟩ := r.obj l mo e
    have hb : b ≠ a := fun z => by
      subst z
      have : upd p0 b o b = none := h2.2
      rw [upd_same] at this; cases this
    refine ⟨b, u, h1, ⟨h2.1, ?_⟩, by rw [upd_ne hb]; exact h3, h4.mono (show Same f f from Same.refl _) (List.prefix_refl _)⟩
    have : upd p0 a o b = none := h2.2
    show upd p0 a o' b = none
    rw [upd_ne hb] at this ⊢; exact this
/-- .. and at last is a value -/
theorem RH.unhide {f p0 : Hp} {a : Addr} {o : HO} (hp : p0 a = none) (r : RH w K ca ⟨f, upd p0 a o⟩ ι H h) : Same f (upd f a o) ∧ RH w K ca ⟨upd f a o, p0⟩ ι H h := by
  have hf : f a = none := r.dis a o (show upd p0 a o a = some o from upd_same)
  have s : Same f (upd f a o) := same_upd hf
  refine ⟨s, fun b u e => ?_, fun b u e => ?_, fun b u e => ?_, r.len, fun l mo e => ?_, r.inj⟩
  · have e : upd f a o b = some u := e
    by_cases hb : b = a
    · subst hb; rw [upd_same] at e; cases e; exact r.pin b _ (show upd p0 b _ b = some _ from upd_same)
    · rw [upd_ne hb] at e; exact r.le b u e
  · have e : p0 b = some u := e
    exact r.pin b u (by show upd p0 a o b = some u; rw [upd_ne (ne_of_none e hp)]; exact e)
  · have e : p0 b = some u := e
    show upd f a o b = none
    rw [upd_ne (ne_of_none e hp)]
    exact r.dis b u (by show upd p0 a o b = some u; rw [upd_ne (ne_of_none e hp)]; exact e)
  · obtain ⟨b, u, h1, h2, h3, h4⟩ := r.obj l mo e
    have hb : b ≠ a := fun z => by
      subst z
      have : upd p0 b o b = none := h2.2
      rw [upd_same] at this; cases this
    refine ⟨b, u, h1, ⟨by show upd f a o b = none; rw [upd_ne hb]; exact h2.1, ?_⟩, h3, h4.mono s (List.prefix_refl _)⟩
    have : upd p0 a o b = none := h2.2
    rw [upd_ne hb] at this; exact this
end

/-! ### leaving out the places that a call made -/
mutual
def D.low (n : Nat) : D → Bool
  | .loc l => decide (l < n)
  | .tup xs => D.lows n xs
  | .lst xs => D.lows n xs
  | .dct kvs => D.lowk n kvs
  | .ins _ fs => D.lowf n fs
  | .lam _ vs => D.lows n vs
  | _ => true
def D.lows (n : Nat) : List D → Bool
  | [] => true
  | x :: xs => D.low n x && D.lows n xs
def D.lowk (n : Nat) : List (D × D) → Bool
  | [] => true
  | (a, b) :: xs => D.low n a && D.low n b && D.lowk n xs
def D.lowf (n : Nat) : List (Fld × D) → Bool
  | [] => true
  | (_, b) :: xs => D.low n b && D.lowf n xs
end
def MO.low (n : Nat) : MO → Bool
  | .lst xs => D.lows n xs
  | .dct kvs => D.lowk n kvs
  | .ins _ fs => D.lowf n fs
def Hm.low (n : Nat) : Hm → Bool
  | [] => true
  | none :: r => Hm.low n r
  | some o :: r => o.low n && Hm.low n r
section
variable {w : World} {K : PySem.W.Frag} {ca : Nat → Option Addr} {G : GP} {H : Hp} {ι : List Addr} {h : Hm}
mutual
theorem Rep.cut (n : Nat) : ∀ {d : D} {v : V}, D.low n d = true → Rep w K ca G ι d v → Rep w K ca G (ι.take n) d v
  | _, _, _, .non => .non
  | _, _, _, .bl b => .bl b
  | _, _, _, .int i => .int i
  | _, _, _, .str s => .str s
  | _, _, l, .tup q r => .tup q (r.cut n (by simpa [D.low] using l))
  | _, _, l, .lst q r => .lst q (r.cut n (by simpa [D.low] using l))
  | _, _, _, .scr q => .scr q
  | _, _, l, .dct m m' q r => .dct m m' q (r.cut n (by simpa [D.low] using l))
  | _, _, l, .ins c q r => .ins c q (r.cut n (by simpa [D.low] using l))
  | .loc j, _, l, .loc q => .loc (by
      have : j < n := by simpa [D.low] using l
      rw [List.getElem?_take_of_lt this]; exact q)
  | _, _, _, .cls c => .cls c
  | _, _, _, .ty t => .ty t
theorem RepL.cut (n : Nat) : ∀ {d : List D} {v : List V}, D.lows n d = true → RepL w K ca G ι d v → RepL w K ca G (ι.take n) d v
  | _, _, _, .nil => .nil
  | _, _, l, .cons a b => by
    simp only [D.lows, Bool.and_eq_true] at l
    exact .cons (a.cut n l.1) (b.cut n l.2)
theorem RepE.cut (n : Nat) : ∀ {d : List (D × D)} {v : List DictEntry}, D.lowk n d = true → RepE w K ca G ι d v → RepE w K ca G (ι.take n) d v
  | _, _, _, .nil => .nil
  | _, _, l, .cons a b c x f g t => by
    simp only [D.lowk, Bool.and_eq_true] at l
    exact .cons (a.cut n l.1.1) b c x (f.cut n l.1.2) g (t.cut n l.2)
theorem RepF.cut (n : Nat) : ∀ {d : List (Fld × D)} {v : List (Str × V)}, D.lowf n d = true → RepF w K ca G ι d v → RepF w K ca G (ι.take n) d v
  | _, _, _, .nil => .nil
  | _, _, l, .cons a b => by
    simp only [D.lowf, Bool.and_eq_true] at l
    exact .cons (a.cut n l.1) (b.cut n l.2)
end
theorem Hm.low_get {n : Nat} : ∀ {h : Hm} {l : Nat} {o : MO}, Hm.low n h = true → h.get l = some o → o.low n = true
  | [], l, o, _, e => by simp [Hm.get] at e
  | none :: r, l, o, hl, e => by
    cases l with
    | zero => simp [Hm.get] at e
    | succ l => exact Hm.low_get (h := r) (l := l) (by simpa [Hm.low] using hl) (by simpa [Hm.get] using e)
  | some o' :: r, l, o, hl, e => by
    simp only [Hm.low, Bool.and_eq_true] at hl
    cases l with
    | zero => simp [Hm.get] at e; subst e; exact hl.1
    | succ l => exact Hm.low_get (h := r) (l := l) hl.2 (by simpa [Hm.get] using e)
theorem RH.cut (r : RH w K ca G ι H h) (n : Nat) (hl : Hm.low n (h.take n) = true) : RH w K ca G (ι.take n) H (h.take n) := by
  have old : ∀ {l : Nat} {o : MO}, Hm.get (h.take n) l = some o → l < n ∧ h.get l = some o := fun {l o} e => by
    unfold Hm.get at e
    rw [List.getElem?_take] at e
    split at e
    · exact ⟨by assumption, e⟩
    · cases e
  refine ⟨r.le, r.pin, r.dis, by simp [r.len], fun l o e => ?_, fun l l' o o' a e1 e2 i1 i2 => ?_⟩
  · obtain ⟨hn, e'⟩ := old e
    obtain ⟨a, u, h1, h2, h3, h4⟩ := r.obj l o e'
    refine ⟨a, u, by rw [List.getElem?_take_of_lt hn]; exact h1, h2, h3, ?_⟩
    have lo := Hm.low_get hl e
    cases h4 with
    | lst q => exact .lst (q.cut n lo)
    | dct m m' q => exact .dct m m' (q.cut n lo)
    | ins c q => exact .ins c (q.cut n lo)
  · obtain ⟨hn, e'⟩ := old e1
    obtain ⟨hn', e''⟩ := old e2
    rw [List.getElem?_take_of_lt hn] at i1
    rw [List.getElem?_take_of_lt hn'] at i2
    exact r.inj l l' o o' a e' e'' i1 i2
end
/-- a call's end: what it made and nobody holds is forgotten -/
def fin1 (n : Nat) (v : D) (h : Hm) : Res D := if (D.low n v && Hm.low n (h.take n)) = true then .ok v (h.take n) else .ok v h
def runS (n : Nat) (r : SRes) : Res D :=
  match r with
  | .nx _ h => fin1 n .non h
  | .rt v h => fin1 n v h
  | .ex c _ h => .exc c h
  | _ => .bad
def runF (len : Nat) (m : MS) (as : List D) (h : Hm) : Res D := runS h.length (m (as.map some ++ List.replicate (len - as.length) none) h)
theorem fin1_post {g : GX} {W : XW} {σ : St} {G G' : GP} {ι ι' : List Addr} {h h' : Hm} {v : D} {x : V} {Q : VK} {H' : Hp} (hι : ι.length = h.length) (gr : Gr G ι G' ι') (rh : RH g.w g.K g.ca G' ι' H' h') (r : Rep g.w g.K g.ca G' ι' v x)
    (p : PostR g W σ (RpE g) G ι (fin1 h.length v h') Q) : Q x H' := by
  unfold fin1 at p
  split at p
  · rename_i hl
    simp only [Bool.and_eq_true] at hl
    refine p G' (ι'.take h.length) H' x ⟨gr.s, ?_, gr.q⟩ (rh.cut _ hl.2) (r.cut _ hl.1)
    rw [← hι]
    obtain ⟨t, rfl⟩ := gr.p
    simp
  · exact p G' ι' H' x gr rh r

/-! ### arguments and displays -/
section
variable {g : GX} {N : List Str} {sc : SC} {k : Nat} {W : XW} {σ : St} {G : GP} {ι : List Addr} {H : Hp} {h : Hm} {ev : Ev}
def aNil : MA := fun _ h => .ok [] h
def aCons (a : ME) (r : MA) : MA := fun e h => (a e h).bind fun x h1 => (r e h1).bind fun xs h2 => .ok (x :: xs) h2
/-- what a star spreads -/
def seqOf : D → Option (List D)
  | .tup xs => some xs
  | .lst xs => some xs
  | _ => none
def aStar (a : ME) (r : MA) : MA := fun e h => (a e h).bind fun x h1 => match seqOf x with
  | some ys => (r e h1).bind fun xs h2 => .ok (ys ++ xs) h2
  | none => .bad
theorem sa_nil : SA g N sc k [] aNil := fun X W c => pa_nil.imp fun σ H Q q => by
  obtain ⟨G, ι, e, h, rs, rh, p⟩ := q
  exact p.here (x := []) rh .nil
def notStar : Expr → Bool
  | .Starred _ _ => false
  | _ => true
theorem star_no {e : Expr} {es : List Expr} {env : Env} (h : notStar e = true) : starEach (e :: es) env = (false, eval e env) :: starEach es env := by
  cases e <;> first | rfl | (simp [notStar] at h)
theorem sa_cons {e : Expr} {es : List Expr} {ma : ME} {mr : MA} (ha : SE g N sc k e ma) (hr : SA g N sc k es mr) (hs : notStar e = true := by rfl) : SA g N sc k (e :: es) (aCons ma mr) := fun X W c =>
  (pa_cons (ha X W c) (hr X W c) (star_no hs)).imp fun σ H Q q => by
    obtain ⟨G, ι, e, h, rs, rh, p⟩ := q
    refine tE_go rs rh p fun v h1 G1 ι1 H1 x _ gr rh1 rs1 rx p1 => tA_go rs1 rh1 p1 fun v2 h2 G2 ι2 H2 y _ gr2 rh2 rs2 ry p2 => ?_
    exact p2.here rh2 (RepL.cons (rx.mono gr2.s gr2.p) ry)
theorem sa_star {e : Expr} {es : List Expr} {ma : ME} {mr : MA} {pos : Pos} (ha : SE g N sc k e ma) (hr : SA g N sc k es mr) : SA g N sc k (.Starred e pos :: es) (aStar ma mr) := fun X W c =>
  (StX.pa_star (ha X W c) (hr X W c) rfl).imp fun σ H Q q => by
    obtain ⟨G, ι, e, h, rs, rh, p⟩ := q
    refine tE_go rs rh p fun v h1 G1 ι1 H1 x _ gr rh1 rs1 rx p1 => ?_
    have go : ∀ {ys : List D} {xs : List V}, seqOf v = some ys → RepL g.w g.K g.ca G1 ι1 ys xs → tA g W mr σ H1 fun zs H2 => Q (xs ++ zs) H2 := fun {ys xs} hy rl => by
      have p1' : PostR g W σ (RpA g) G1 ι1 ((mr e h1).bind fun xs h2 => .ok (ys ++ xs) h2) Q := by
        have := p1
        simp only [hy] at this
        exact this
      exact tA_go rs1 rh1 p1' fun v2 h2 G2 ι2 H2 y _ gr2 rh2 rs2 ry p2 => p2.here rh2 ((rl.mono gr2.s gr2.p).app ry)
    cases rx with
    | tup q r => exact ⟨_, _, rfl, .inl (by rw [c.eK]; exact same_sqT rh1.le q), go rfl r⟩
    | lst q r => exact ⟨_, _, rfl, .inr (SqL.of (rh1.le _ _ q)), go rfl r⟩
    | _ => exact p1.elim
/-- (a, b), [a, b] (not to be changed), [a, b] (to be changed) -/
def fTup : List D → Hm → Res D := fun xs h => if xs.length ≤ LIM then .ok (.tup xs) h else .bad
def fLst : List D → Hm → Res D := fun xs h => if xs.length ≤ LIM then .ok (.lst xs) h else .bad
def fNewL : List D → Hm → Res D := fun xs h => if xs.length ≤ LIM then .ok (.loc h.length) (h ++ [some (.lst xs)]) else .bad
def mTup (a : MA) : ME := mL fTup a
def mLst (a : MA) : ME := mL fLst a
def mNewL (a : MA) : ME := mL fNewL a
/-- a new tuple, a new frozen list, a new place -/
theorem new_tup {G : GP} {ι : List Addr} {H : Hp} {h : Hm} {ds : List D} {xs : List V} {Q : VK} (rh : RH g.w g.K g.ca G ι H h) (r : RepL g.w g.K g.ca G ι ds xs) (p : PostR g W σ (RpE g) G ι (.ok (.tup ds) h) Q) : ∀ a, H a = none → Q (.ref a) (upd H a (.tup xs)) := fun a ha => by
  obtain ⟨gr, rh'⟩ := rh.fz (o := .tup xs) ha
  exact p _ _ _ _ gr rh' (.tup (.inl upd_same) (r.mono gr.s gr.p))
theorem new_lst {G : GP} {ι : List Addr} {H : Hp} {h : Hm} {ds : List D} {xs : List V} {Q : VK} (rh : RH g.w g.K g.ca G ι H h) (r : RepL g.w g.K g.ca G ι ds xs) (p : PostR g W σ (RpE g) G ι (.ok (.lst ds) h) Q) : ∀ a, H a = none → Q (.ref a) (upd H a (.lst xs)) := fun a ha => by
  obtain ⟨gr, rh'⟩ := rh.fz (o := .lst xs) ha
  exact p _ _ _ _ gr rh' (.lst upd_same (r.mono gr.s gr.p))
theorem new_loc {G : GP} {ι : List Addr} {H : Hp} {h : Hm} {mo : MO} {o : HO} {Q : VK} (rh : RH g.w g.K g.ca G ι H h) (r : ∀ a, H a = none → RepO g.w g.K g.ca G ι a mo o) (p : PostR g W σ (RpE g) G ι (.ok (.loc h.length) (h ++ [some mo])) Q) : ∀ a, H a = none → Q (.ref a) (upd H a o) := fun a ha => by
  obtain ⟨gr, rh'⟩ := rh.new ha (r a ha)
  exact p _ _ _ _ gr rh' (.loc (by rw [← rh.len]; simp))
theorem se_tup {es : List Expr} {ma : MA} {x1 : Nat} {pos : Pos} (ha : SA g N sc k es ma) : SE g N sc k (.Tuple es x1 pos) (mTup ma) := fun X W c =>
  (pe_tup (ha X W c)).imp fun σ H Q q => by
    obtain ⟨G, ι, e, h, rs, rh, p⟩ := q
    refine tA_go rs rh p fun v h1 G1 ι1 H1 xs _ gr rh1 rs1 rx p1 => ?_
    unfold fTup at p1
    split at p1
    · rename_i hl
      exact ⟨by rw [← rx.length, lim_eq]; exact hl, new_tup rh1 rx p1⟩
    · exact p1.elim
theorem se_lst {es : List Expr} {ma : MA} {pos : Pos} (ha : SA g N sc k es ma) : SE g N sc k (.List es pos) (mLst ma) := fun X W c =>
  (pe_lst (ha X W c)).imp fun σ H Q q => by
    obtain ⟨G, ι, e, h, rs, rh, p⟩ := q
    refine tA_go rs rh p fun v h1 G1 ι1 H1 xs _ gr rh1 rs1 rx p1 => ?_
    unfold fLst at p1
    split at p1
    · rename_i hl
      exact ⟨by rw [← rx.length, lim_eq]; exact hl, new_lst rh1 rx p1⟩
    · exact p1.elim
theorem se_newL {es : List Expr} {ma : MA} {pos : Pos} (ha : SA g N sc k es ma) : SE g N sc k (.List es pos) (mNewL ma) := fun X W c =>
  (pe_lst (ha X W c)).imp fun σ H Q q => by
    obtain ⟨G, ι, e, h, rs, rh, p⟩ := q
    refine tA_go rs rh p fun v h1 G1 ι1 H1 xs _ gr rh1 rs1 rx p1 => ?_
    unfold fNewL at p1
    split at p1
    · rename_i hl
      exact ⟨by rw [← rx.length, lim_eq]; exact hl, new_loc rh1 (fun _ _ => .lst rx) p1⟩
    · exact p1.elim

/-! ### statements -/
def sSeq (a b : MS) : MS := fun e h => match a e h with
  | .nx e1 h1 => b e1 h1
  | r => r
def sNil : MS := fun e h => .nx e h
def sSet (i : Nat) (a : ME) : MS := fun e h => match a e h with
  | .ok v h1 => .nx (e.set i (some v)) h1
  | .exc c h1 => .ex c e h1
  | .bad => .bad
def sRet (a : ME) : MS := fun e h => match a e h with
  | .ok v h1 => .rt v h1
  | .exc c h1 => .ex c e h1
  | .bad => .bad
def sExpr (a : ME) : MS := fun e h => match a e h with
  | .ok _ h1 => .nx e h1
  | .exc c h1 => .ex c e h1
  | .bad => .bad
def sIf (c : MT) (a b : MS) : MS := fun e h => match c e h with
  | .ok true h1 => a e h1
  | .ok false h1 => b e h1
  | .exc c h1 => .ex c e h1
  | .bad => .bad
def sNo : MS := fun _ _ => .bad
theorem PostS.grow {g : GX} {W : XW} {G G' : GP} {ι ι' : List Addr} {r : SRes} {D : Ends} (gr : Gr G ι G' ι') (p : PostS g W G ι r D) : PostS g W G' ι' r D := by
  cases r with
  | nx e h => exact fun G2 ι2 H2 σ2 g2 => p G2 ι2 H2 σ2 (gr.trans g2)
  | bk e h => exact fun G2 ι2 H2 σ2 g2 => p G2 ι2 H2 σ2 (gr.trans g2)
  | ct e h => exact fun G2 ι2 H2 σ2 g2 => p G2 ι2 H2 σ2 (gr.trans g2)
  | rt e h => exact fun G2 ι2 H2 σ2 g2 => p G2 ι2 H2 σ2 (gr.trans g2)
  | ex c e h => exact fun G2 ι2 H2 σ2 g2 => p G2 ι2 H2 σ2 (gr.trans g2)
  | bad => exact p
/-- an expression at the head of a statement -/
theorem tE_s {m : ME} {f : D → Hm → SRes} {Dd : Ends} {Q : VK} {r : SRes} (rs : RS g.w g.K g.ca G ι σ ev) (rh : RH g.w g.K g.ca G ι H h) (hr : r = match m ev h with | .ok v h1 => f v h1 | .exc c h1 => .ex c ev h1 | .bad => .bad) (p : PostS g W G ι r Dd)
    (k : ∀ v h' G' ι' H' x, Gr G ι G' ι' → RH g.w g.K g.ca G' ι' H' h' → RS g.w g.K g.ca G' ι' σ ev → Rep g.w g.K g.ca G' ι' v x → PostS g W G' ι' (f v h') Dd → Q x H') : tE g W m σ H Q := by
  subst hr
  refine ⟨G, ι, ev, h, rs, rh, ?_⟩
  cases e : m ev h with
  | ok v h1 =>
    rw [e] at p
    exact fun G' ι' H' x gr rh' rx => k v h1 G' ι' H' x gr rh' (rs.mono gr.s gr.p) rx (PostS.grow gr p)
  | exc c h1 =>
    rw [e] at p
    exact fun G' ι' H' gr rh' => p G' ι' H' σ gr rh' (rs.mono gr.s gr.p)
  | bad => rw [e] at p; exact p
theorem tT_s {m : MT} {f : Bool → Hm → SRes} {Dd : Ends} {Q : Bool → Hp → Prop} {r : SRes} (rs : RS g.w g.K g.ca G ι σ ev) (rh : RH g.w g.K g.ca G ι H h) (hr : r = match m ev h with | .ok v h1 => f v h1 | .exc c h1 => .ex c ev h1 | .bad => .bad) (p : PostS g W G ι r Dd)
    (k : ∀ v h' G' ι' H', Gr G ι G' ι' → RH g.w g.K g.ca G' ι' H' h' → RS g.w g.K g.ca G' ι' σ ev → PostS g W G' ι' (f v h') Dd → Q v H') : tT g W m σ H Q := by
  subst hr
  refine ⟨G, ι, ev, h, rs, rh, ?_⟩
  cases e : m ev h with
  | ok v h1 =>
    rw [e] at p
    intro G' ι' H' x gr rh' rx
    subst rx
    exact k v h1 G' ι' H' gr rh' (rs.mono gr.s gr.p) (PostS.grow gr p)
  | exc c h1 =>
    rw [e] at p
    exact fun G' ι' H' gr rh' => p G' ι' H' σ gr rh' (rs.mono gr.s gr.p)
  | bad => rw [e] at p; exact p
theorem sb_nil : SB g N sc k [] sNil := fun X W c => pss_nil.imp fun D σ H q => by
  obtain ⟨G, ι, e, h, rs, rh, p⟩ := q
  exact p G ι H σ Gr.refl rh rs
theorem sb_cons {st : Stmt} {sts : List Stmt} {a b : MS} (ha : SS g N sc k st a) (hb : SB g N sc k sts b) : SB g N sc k (st :: sts) (sSeq a b) := fun X W c => (pss_cons (ha X W c) (hb X W c)).imp fun D σ H q => by
  obtain ⟨G, ι, e, h, rs, rh, p⟩ := q
  refine ⟨G, ι, e, h, rs, rh, ?_⟩
  unfold sSeq at p
  cases ea : a e h with
  | nx e1 h1 =>
    rw [ea] at p
    exact fun G' ι' H' σ' gr rh' rs' => ⟨G', ι', e1, h1, rs', rh', PostS.grow gr p⟩
  | rt v h1 => rw [ea] at p; exact p
  | bk v h1 => rw [ea] at p; exact p
  | ct v h1 => rw [ea] at p; exact p
  | ex c v h1 => rw [ea] at p; exact p
  | bad => rw [ea] at p; exact p
theorem sb_one {st : Stmt} {a : MS} (ha : SS g N sc k st a) : SB g N sc k [st] a := fun X W c => (pss_one (ha X W c))
theorem ss_set (i : Nat) {x : Str} {e : Expr} {m : ME} {pos pos' : Pos} (he : SE g N sc k e m) (hN : N[i]? = some x := by rfl) (hx : Lc sc x := by first | exact Or.inl rfl | exact Or.inr ⟨rfl, rfl⟩)
    (hs : ∀ env, swapsWith e (some (.Name x pos')) pos.line env = pure false := by intro _; rfl) : SS g N sc k (.Assign [.Name x pos'] e pos) (sSet i m) := fun X W c => by
  refine (ps_set (i := i) c.nd (by rw [c.eN]; exact hN) (c.lc hx) (he X W c) (hs X.env) (c.loc hx)).imp fun D σ H q => ?_
  obtain ⟨G, ι, e, h, rs, rh, p⟩ := q
  exact tE_s (f := fun v h1 => .nx (e.set i (some v)) h1) rs rh rfl p fun v h' G' ι' H' x gr rh' rs' rx p' => p' G' ι' H' _ Gr.refl rh' (rs'.set rx)
theorem ss_ret {e : Expr} {m : ME} {pos : Pos} (he : SE g N sc k e m) : SS g N sc k (.Return (some e) pos) (sRet m) := fun X W c => (ps_ret (he X W c)).imp fun D σ H q => by
  obtain ⟨G, ι, e, h, rs, rh, p⟩ := q
  exact tE_s (f := fun v h1 => .rt v h1) rs rh rfl p fun v h' G' ι' H' x gr rh' rs' rx p' => p' G' ι' H' x Gr.refl rh' rx
theorem ss_expr {e : Expr} {m : ME} {pos : Pos} (he : SE g N sc k e m) (hs : ∀ env, swapsWith e none pos.line env = pure false := by intro _; rfl) : SS g N sc k (.Expr e pos) (sExpr m) := fun X W c => (ps_expr (he X W c) (hs X.env)).imp fun D σ H q => by
  obtain ⟨G, ι, e, h, rs, rh, p⟩ := q
  exact tE_s (f := fun v h1 => .nx e h1) rs rh rfl p fun v h' G' ι' H' x gr rh' rs' rx p' => p' G' ι' H' σ Gr.refl rh' rs'
theorem ss_pass {pos : Pos} : SS g N sc k (.Pass pos) sNil := fun X W c => ps_pass.imp fun D σ H q => by
  obtain ⟨G, ι, e, h, rs, rh, p⟩ := q
  exact p G ι H σ Gr.refl rh rs
theorem ss_if {c : Expr} {a b : List Stmt} {mc : MT} {ma mb : MS} {pos : Pos} (hc : ST g N sc k c mc) (ha : SB g N sc k a ma) (hb : SB g N sc k b mb) : SS g N sc k (.If c a b pos) (sIf mc ma mb) := fun X W c => (ps_if (hc X W c) (ha X W c) (hb X W c)).imp fun D σ H q => by
  obtain ⟨G, ι, e, h, rs, rh, p⟩ := q
  refine tT_s (f := fun v h1 => if v = true then ma e h1 else mb e h1) rs rh ?_ p fun v h' G' ι' H' gr rh' rs' p' => ?_
  · unfold sIf
    cases mc e h with
    | ok v h1 => cases v <;> rfl
    | exc _ _ => rfl
    | bad => rfl
  · cases v with
    | true => exact ⟨G', ι', e, h', rs', rh', p'⟩
    | false => exact ⟨G', ι', e, h', rs', rh', p'⟩
theorem ss_no {st : Stmt} : SS g N sc k st sNo := fun X W c => ps_never.imp fun D σ H q => by
  obtain ⟨G, ι, e, h, rs, rh, p⟩ := q
  exact p.elim
end
end MP
end L2

set_option Elab.async false
set_option linter.all false
set_option maxRecDepth 100000
set_option maxHeartbeats 2000000
namespace L2
namespace MP
open PySem PySem.Spec PyProof.Rows
/-- what stands at a place, for reading -/
def deref (h : Hm) : D → D
  | .loc l => match h.get l with
    | some (.lst xs) => .lst xs
    | some (.dct kvs) => .dct kvs
    | _ => .loc l
  | d => d
section
variable {g : GX} {N : List Str} {sc : SC} {k : Nat} {W : XW} {σ : St} {G : GP} {ι : List Addr} {H : Hp} {h : Hm} {ev : Ev} {w : World} {K : PySem.W.Frag} {ca : Nat → Option Addr}
theorem RH.loc (rh : RH w K ca G ι H h) {l : Nat} {mo : MO} {v : V} (hl : h.get l = some mo) (r : Rep w K ca G ι (.loc l) v) : ∃ a u, v = .ref a ∧ ι[l]? = some a ∧ (G.f a = none ∧ G.p a = none) ∧ H a = some u ∧ RepO w K ca G ι a mo u := by
  cases r with
  | loc q =>
    obtain ⟨a, u, h1, h2, h3, h4⟩ := rh.obj l mo hl
    rw [q] at h1; cases h1
    exact ⟨_, u, rfl, q, h2, h3, h4⟩
theorem dp_deref (rh : RH w K ca G ι H h) {d : D} {v : V} {p : PyData} (r : Rep w K ca G ι d v) (e : D.pd (deref h d) = some p) : Dp K H v p := by
  cases d with
  | loc l =>
    cases hl : h.get l with
    | none => simp [deref, hl, D.pd] at e
    | some mo =>
      simp only [deref, hl] at e
      cases mo with
      | lst xs =>
        obtain ⟨a, u, rfl, _, _, hu, ro⟩ := rh.loc hl r
        cases ro with
        | lst rl =>
          simp only [D.pd, Option.map_eq_some_iff] at e
          obtain ⟨ps, e, rfl⟩ := e
          exact .lst (SqL.of hu) (rl.dps rh.le e)
      | dct _ => simp [D.pd] at e
      | ins _ _ => simp [D.pd] at e
  | _ => exact r.dp rh.le e

/-! ### arithmetic -/
def fAdd : D → D → Hm → Res D
  | .int i, .int j, h => .ok (.int (i + j)) h
  | .str s, .str t, h => if s.length + t.length ≤ LIM then .ok (.str (s ++ t)) h else .bad
  | .tup xs, .tup ys, h => if xs.length + ys.length ≤ LIM then .ok (.tup (xs ++ ys)) h else .bad
  | .lst xs, .lst ys, h => if xs.length + ys.length ≤ LIM then .ok (.lst (xs ++ ys)) h else .bad
  | .loc l, .lst ys, h => match h.get l with
    | some (.lst xs) => if xs.length + ys.length ≤ LIM then .ok (.lst (xs ++ ys)) h else .bad
    | _ => .bad
  | _, _, _ => .bad
theorem nilL {ds : List D} {xs : List V} (r : RepL w K ca G ι ds xs) : xs = [] ↔ ds = [] := by
  cases r <;> simp
theorem catL {xs zs : List V} {a b : Addr} {ds es : List D} {Q : VK} (rh : RH g.w g.K g.ca G ι H h) (rl : RepL g.w g.K g.ca G ι ds xs) (rl2 : RepL g.w g.K g.ca G ι es zs) (ha : H a = some (.lst xs)) (hb : H b = some (.lst zs)) (hz : ds.length + es.length ≤ LIM)
    (p : PostR g W σ (RpE g) G ι (.ok (.lst (ds ++ es)) h) Q) : rCat (.ref a) (.ref b) H Q :=
  ⟨a, b, xs, zs, rfl, rfl, ha, hb, by rw [← rl.length, ← rl2.length, lim_eq]; exact hz, new_lst rh (rl.app rl2) p⟩
theorem o_add : ∀ X W, At g N sc k X W → ∃ r, OpR X (binaryOp .Add) r ∧ Ok2 g r fAdd := fun X W c => by
  refine ⟨_, op_add.or (op_add_str.or (op_catA.or op_cat)), fun W σ G ι H h a b x y Q rh ra rb p => ?_⟩
  have key : fAdd a b h ≠ .bad := fun e => by rw [e] at p; exact p
  cases ra with
  | int i =>
    cases rb with
    | int j => exact .inl ⟨i, j, rfl, rfl, p.here rh (.int _)⟩
    | _ => exact absurd rfl key
  | str s =>
    cases rb with
    | str t =>
      refine .inr (.inl ⟨_, _, rfl, rfl, ?_, ?_⟩)
      · by_cases hz : s.length + t.length ≤ LIM
        · rw [lim_eq]; simpa [Str.length] using hz
        · exact absurd (by simp [fAdd, hz]) key
      · by_cases hz : s.length + t.length ≤ LIM
        · have p' : PostR g W σ (RpE g) G ι (.ok (.str (s ++ t)) h) Q := by simpa [fAdd, hz] using p
          have e : (⟨s.toArray⟩ : Str) ++ ⟨t.toArray⟩ = ⟨(s ++ t).toArray⟩ := by
            show (⟨s.toArray ++ t.toArray⟩ : Str) = _
            simp
          rw [e]
          exact p'.here rh (.str _)
        · exact absurd (by simp [fAdd, hz]) key
    | _ => exact absurd rfl key
  | tup q r =>
    cases rb with
    | tup q2 r2 =>
      rename_i a1 xs ds b1 ys es
      by_cases hz : ds.length + es.length ≤ LIM
      · have p' : PostR g W σ (RpE g) G ι (.ok (.tup (ds ++ es)) h) Q := by simpa [fAdd, hz] using p
        refine .inr (.inr (.inl ⟨_, _, xs, ys, rfl, rfl, by rw [c.eK]; exact same_sqT rh.le q, by rw [c.eK]; exact same_sqT rh.le q2, by rw [← r.length, ← r2.length, lim_eq]; exact hz, fun e => ?_, fun e1 e2 => ?_, fun e1 e2 => new_tup rh (r.app r2) p'⟩))
        · have := (nilL r).mp e; subst this
          exact p'.here rh (.tup q2 r2)
        · have := (nilL r2).mp e2; subst this
          rw [List.append_nil] at p'
          exact p'.here rh (.tup q r)
      · exact absurd (by simp [fAdd, hz]) key
    | _ => exact absurd rfl key
  | lst q r =>
    cases rb with
    | lst q2 r2 =>
      rename_i a1 xs ds b1 ys es
      by_cases hz : ds.length + es.length ≤ LIM
      · exact .inr (.inr (.inr (catL rh r r2 (rh.le _ _ q) (rh.le _ _ q2) hz (by simpa [fAdd, hz] using p))))
      · exact absurd (by simp [fAdd, hz]) key
    | _ => exact absurd rfl key
  | loc q =>
    rename_i l a1
    cases rb with
    | lst q2 r2 =>
      rename_i b1 ys es
      cases hl : h.get l with
      | none => exact absurd (by simp [fAdd, hl]) key
      | some mo =>
        cases mo with
        | lst xs =>
          obtain ⟨a2, u, e, _, _, hu, ro⟩ := rh.loc hl (.loc q)
          cases e
          cases ro with
          | lst rl =>
            by_cases hz : xs.length + es.length ≤ LIM
            · exact .inr (.inr (.inr (catL rh rl r2 hu (rh.le _ _ q2) hz (by simpa [fAdd, hl, hz] using p))))
            · exact absurd (by simp [fAdd, hl, hz]) key
        | dct _ => exact absurd (by simp [fAdd, hl]) key
        | ins _ _ => exact absurd (by simp [fAdd, hl]) key
    | _ => exact absurd rfl key
  | non => exact absurd rfl key
  | bl _ => exact absurd rfl key
  | dct _ _ _ _ => exact absurd rfl key
  | ins _ _ _ => exact absurd rfl key
  | cls _ => exact absurd rfl key
  | scr _ => exact absurd rfl key
  | ty _ => exact absurd rfl key
/-- two ints -/
def fII (f : Int → Int → Option Int) : D → D → Hm → Res D
  | .int i, .int j, h => match f i j with
    | some n => .ok (.int n) h
    | none => .bad
  | _, _, _ => .bad
theorem ok_ii {C : Int → Int → Prop} {f : Int → Int → Int} {fo : Int → Int → Option Int} (hf : ∀ i j n, fo i j = some n → C i j ∧ f i j = n) : Ok2 g (rI C fun i j => .int (f i j)) (fII fo) := fun W σ G ι H h a b x y Q rh ra rb p => by
  cases ra <;> cases rb <;> first
    | exact p.elim
    | (rename_i i j
       cases e : fo i j with
       | none => exact absurd p (by simp [fII, e, PostR])
       | some n =>
         obtain ⟨h1, h2⟩ := hf i j n e
         have p' : PostR g W σ (RpE g) G ι (.ok (.int n) h) Q := by simpa [fII, e] using p
         exact ⟨i, j, rfl, rfl, h1, by show Q (.int (f i j)) H; rw [h2]; exact p'.here rh (.int _)⟩)
theorem ok_i0 {f : Int → Int → Int} : Ok2 g (rI0 fun i j => .int (f i j)) (fII fun i j => some (f i j)) := fun W σ G ι H h a b x y Q rh ra rb p => by
  cases ra <;> cases rb <;> first
    | exact p.elim
    | exact ⟨_, _, rfl, rfl, p.here rh (.int _)⟩
abbrev fSub : D → D → Hm → Res D := fII fun i j => some (i - j)
def iMul (i j : Int) : Option Int := if decide (-(2 ^ 64) < i) && decide (i < 2 ^ 64) || decide (-(2 ^ 64) < j) && decide (j < 2 ^ 64) then some (i * j) else none
def iDiv (i j : Int) : Option Int := if decide (0 < j) && decide (j < 1073741824) then some (i / j) else none
def iMod (i j : Int) : Option Int := if 0 < j then some (i % j) else none
def iPow (i j : Int) : Option Int := if decide (0 ≤ j) && decide (j ≤ 1000000) && decide (i.natAbs < 2 ^ 64) then some (i ^ j.toNat) else none
theorem o_sub : ∀ X W, At g N sc k X W → ∃ r, OpR X (binaryOp .Sub) r ∧ Ok2 g r fSub := fun X W c => ⟨_, op_sub, ok_i0⟩
theorem o_mul : ∀ X W, At g N sc k X W → ∃ r, OpR X (binaryOp .Mult) r ∧ Ok2 g r (fII iMul) := fun X W c => ⟨_, op_mul, ok_ii fun i j n e => by
  unfold iMul at e
  split at e
  · rename_i hc
    cases e
    refine ⟨?_, rfl⟩
    simp only [Bool.or_eq_true, Bool.and_eq_true, decide_eq_true_eq] at hc
    exact hc
  · cases e⟩
theorem o_div : ∀ X W, At g N sc k X W → ∃ r, OpR X (binaryOp .FloorDiv) r ∧ Ok2 g r (fII iDiv) := fun X W c => ⟨_, op_fdiv, ok_ii fun i j n e => by
  unfold iDiv at e
  split at e
  · rename_i hc
    cases e
    refine ⟨?_, rfl⟩
    simp only [Bool.and_eq_true, decide_eq_true_eq] at hc
    exact hc
  · cases e⟩
theorem o_mod : ∀ X W, At g N sc k X W → ∃ r, OpR X (binaryOp .Mod) r ∧ Ok2 g r (fII iMod) := fun X W c => ⟨_, op_mod, ok_ii fun i j n e => by
  unfold iMod at e
  split at e
  · rename_i hc
    cases e
    exact ⟨hc, rfl⟩
  · cases e⟩
theorem o_pow : ∀ X W, At g N sc k X W → ∃ r, OpR X (binaryOp .Pow) r ∧ Ok2 g r (fII iPow) := fun X W c => ⟨_, op_pow, ok_ii fun i j n e => by
  unfold iPow at e
  split at e
  · rename_i hc
    cases e
    refine ⟨?_, rfl⟩
    simp only [Bool.and_eq_true, decide_eq_true_eq] at hc
    exact ⟨hc.1.1, hc.1.2, hc.2⟩
  · cases e⟩
def fNeg : D → Hm → Res D
  | .int i, h => .ok (.int (-i)) h
  | _, _ => .bad
theorem o_neg : ∀ X W, At g N sc k X W → ∃ r, UnR X (unaryOp .USub) r ∧ Ok1 g r fNeg := fun X W c => ⟨_, un_neg, fun W σ G ι H h a x Q rh ra p => by
  cases ra <;> first
    | exact p.elim
    | exact ⟨_, rfl, p.here rh (.int _)⟩⟩

/-! ### comparisons -/
def fIB (f : Int → Int → Bool) : D → D → Hm → Res D
  | .int i, .int j, h => .ok (.bl (f i j)) h
  | _, _, _ => .bad
theorem ok_ib {f : Int → Int → Bool} : Ok2 g (rI0 fun i j => .bl (f i j)) (fIB f) := fun W σ G ι H h a b x y Q rh ra rb p => by
  cases ra <;> cases rb <;> first
    | exact p.elim
    | exact ⟨_, _, rfl, rfl, p.here rh (.bl _)⟩
abbrev fLt := fIB fun i j => decide (i < j)
abbrev fLe := fIB fun i j => decide (i ≤ j)
abbrev fGt := fIB fun i j => decide (j < i)
abbrev fGe := fIB fun i j => decide (j ≤ i)
theorem o_lt : ∀ X W, At g N sc k X W → ∃ r, OpR X (compareOp .Lt) r ∧ Ok2 g r fLt := fun X W c => ⟨_, op_lt, ok_ib⟩
theorem o_le : ∀ X W, At g N sc k X W → ∃ r, OpR X (compareOp .LtE) r ∧ Ok2 g r fLe := fun X W c => ⟨_, op_le, ok_ib⟩
theorem o_gt : ∀ X W, At g N sc k X W → ∃ r, OpR X (compareOp .Gt) r ∧ Ok2 g r fGt := fun X W c => ⟨_, op_gt, ok_ib⟩
theorem o_ge : ∀ X W, At g N sc k X W → ∃ r, OpR X (compareOp .GtE) r ∧ Ok2 g r fGe := fun X W c => ⟨_, op_ge, ok_ib⟩
def D.isNon : D → Bool
  | .non => true
  | _ => false
def fIs : D → D → Hm → Res D
  | a, .non, h => .ok (.bl (D.isNon a)) h
  | _, _, _ => .bad
def fIsN : D → D → Hm → Res D
  | a, .non, h => .ok (.bl (!D.isNon a)) h
  | _, _, _ => .bad
theorem isNon_iff {d : D} {v : V} (r : Rep w K ca G ι d v) : decide (v = .non) = D.isNon d := by
  cases r <;> rfl
theorem o_is : ∀ X W, At g N sc k X W → ∃ r, OpR X (compareOp .Is) r ∧ Ok2 g r fIs := fun X W c => ⟨_, op_isN, fun W σ G ι H h a b x y Q rh ra rb p => by
  cases rb <;> first
    | (cases a <;> exact p.elim)
    | exact ⟨rfl, by rw [isNon_iff ra]; exact PostR.here (v := D.bl (D.isNon a)) (by cases a <;> exact p) rh (Rep.bl _)⟩⟩
theorem o_isn : ∀ X W, At g N sc k X W → ∃ r, OpR X (compareOp .IsNot) r ∧ Ok2 g r fIsN := fun X W c => ⟨_, op_notN, fun W σ G ι H h a b x y Q rh ra rb p => by
  cases rb <;> first
    | (cases a <;> exact p.elim)
    | exact ⟨rfl, by rw [isNon_iff ra]; exact PostR.here (v := D.bl (!D.isNon a)) (by cases a <;> exact p) rh (Rep.bl _)⟩⟩
def fEq : D → D → Hm → Res D := fun a b h => if (D.plain (deref h a) 60 && D.plain (deref h b) 60) = true then .ok (.bl (D.eqv (deref h a) (deref h b))) h else .bad
def fNe : D → D → Hm → Res D := fun a b h => if (D.plain (deref h a) 60 && D.plain (deref h b) 60) = true then .ok (.bl (!D.eqv (deref h a) (deref h b))) h else .bad
theorem At.u64 {X : Cx} {W : XW} (c : At g N sc k X W) : X.A.units + 64 < cLine := c.room.units
theorem o_eq : ∀ X W, At g N sc k X W → ∃ r, OpR X (compareOp .Eq) r ∧ Ok2 g r fEq := fun X W c => ⟨_, op_eqD c.u64, fun W σ G ι H h a b x y Q rh ra rb p => by
  unfold fEq at p
  split at p
  · rename_i hc
    simp only [Bool.and_eq_true] at hc
    obtain ⟨p1, e1, s1⟩ := D.plain_shaped hc.1
    obtain ⟨p2, e2, s2⟩ := D.plain_shaped hc.2
    rw [c.eK]
    exact ⟨p1, p2, dp_deref rh ra e1, dp_deref rh rb e2, s1, s2, by rw [D.eqv_pd _ _ _ _ e1 e2]; exact p.here rh (.bl _)⟩
  · exact p.elim⟩
theorem o_ne : ∀ X W, At g N sc k X W → ∃ r, OpR X (compareOp .NotEq) r ∧ Ok2 g r fNe := fun X W c => ⟨_, op_neD c.u64, fun W σ G ι H h a b x y Q rh ra rb p => by
  unfold fNe at p
  split at p
  · rename_i hc
    simp only [Bool.and_eq_true] at hc
    obtain ⟨p1, e1, s1⟩ := D.plain_shaped hc.1
    obtain ⟨p2, e2, s2⟩ := D.plain_shaped hc.2
    rw [c.eK]
    exact ⟨p1, p2, dp_deref rh ra e1, dp_deref rh rb e2, s1, s2, by rw [D.eqv_pd _ _ _ _ e1 e2]; exact p.here rh (.bl _)⟩
  · exact p.elim⟩

/-! ### tests -/
def mAndT (a b : MT) : MT := fun e h => (a e h).bind fun c h1 => if c = true then b e h1 else .ok false h1
def mOrT (a b : MT) : MT := fun e h => (a e h).bind fun c h1 => if c = true then .ok true h1 else b e h1
def mNotT (a : MT) : MT := fun e h => (a e h).bind fun c h1 => .ok (!c) h1
theorem sw_and1 {a : Expr} {ma : MT} {pos : Pos} (ha : ST g N sc k a ma) : SW g N sc k (.BoolOp .And [a] pos) ma := fun X W c => pw_and1 (ha X W c)
theorem sw_or1 {a : Expr} {ma : MT} {pos : Pos} (ha : ST g N sc k a ma) : SW g N sc k (.BoolOp .Or [a] pos) ma := fun X W c => pw_or1 (ha X W c)
theorem sw_and {a b : Expr} {rest : List Expr} {ma mb : MT} {pos : Pos} (ha : ST g N sc k a ma) (hb : SW g N sc k (.BoolOp .And (b :: rest) pos) mb) : SW g N sc k (.BoolOp .And (a :: b :: rest) pos) (mAndT ma mb) := fun X W c =>
  (pw_and (ha X W c) (hb X W c)).imp fun σ H Q q => by
    obtain ⟨G, ι, e, h, rs, rh, p⟩ := q
    refine tT_go rs rh p fun v h1 G1 ι1 H1 _ gr rh1 rs1 p1 => ?_
    cases v with
    | true => exact ⟨G1, ι1, e, h1, rs1, rh1, p1⟩
    | false => exact p1.here (x := false) rh1 rfl
theorem sw_or {a b : Expr} {rest : List Expr} {ma mb : MT} {pos : Pos} (ha : ST g N sc k a ma) (hb : SW g N sc k (.BoolOp .Or (b :: rest) pos) mb) : SW g N sc k (.BoolOp .Or (a :: b :: rest) pos) (mOrT ma mb) := fun X W c =>
  (pw_or (ha X W c) (hb X W c)).imp fun σ H Q q => by
    obtain ⟨G, ι, e, h, rs, rh, p⟩ := q
    refine tT_go rs rh p fun v h1 G1 ι1 H1 _ gr rh1 rs1 p1 => ?_
    cases v with
    | false => exact ⟨G1, ι1, e, h1, rs1, rh1, p1⟩
    | true => exact p1.here (x := true) rh1 rfl
theorem st_w {a : Expr} {ma : MT} (ha : SW g N sc k a ma) : ST g N sc k a ma := fun X W c => (ha X W c).pt
theorem st_not {a : Expr} {ma : MT} {pos : Pos} (ha : ST g N sc k a ma) : ST g N sc k (.UnaryOp .Not a pos) (mNotT ma) := fun X W c =>
  (pt_not (ha X W c)).imp fun σ H Q q => by
    obtain ⟨G, ι, e, h, rs, rh, p⟩ := q
    exact tT_go rs rh p fun v h1 G1 ι1 H1 _ gr rh1 rs1 p1 => p1.here (x := !v) rh1 rfl
/-- truth of a value -/
def truth (h : Hm) : D → Option Bool
  | .non => some false
  | .bl b => some b
  | .int i => some (i != 0)
  | .str s => if s.length ≤ LIM then some ((s.length : Int) != 0) else none
  | .tup xs => some (!xs.isEmpty)
  | .lst xs => some (!xs.isEmpty)
  | .loc l => match h.get l with
    | some (.lst xs) => some (!xs.isEmpty)
    | _ => none
  | _ => none
def mTr (a : ME) : MT := fun e h => (a e h).bind fun x h1 => match truth h1 x with
  | some b => .ok b h1
  | none => .bad
theorem emptyL {ds : List D} {xs : List V} (r : RepL w K ca G ι ds xs) : (!ds.isEmpty) = !xs.isEmpty := by cases r <;> rfl
theorem truth_ok (rh : RH w K ca G ι H h) {d : D} {v : V} {b : Bool} (r : Rep w K ca G ι d v) (e : truth h d = some b) : TruV K v H b := by
  cases r with
  | non => simp [truth] at e; exact e.symm ▸ rfl
  | bl b => simp [truth] at e; exact e.symm ▸ rfl
  | int i =>
    simp only [truth, Option.some.injEq] at e
    exact e.symm
  | str s =>
    simp only [truth] at e
    split at e
    · rename_i hz
      simp only [Option.some.injEq] at e
      exact ⟨by rw [lim_eq]; simpa [Str.length] using hz, by rw [← e]; simp [Str.length]⟩
    · cases e
  | tup q r =>
    simp only [truth, Option.some.injEq] at e
    exact .inr (.inl ⟨_, same_sqT rh.le q, by rw [← e]; exact emptyL r⟩)
  | lst q r =>
    simp only [truth, Option.some.injEq] at e
    exact .inl ⟨_, SqL.of (rh.le _ _ q), by rw [← e]; exact emptyL r⟩
  | loc q =>
    rename_i l a
    simp only [truth] at e
    cases hl : h.get l with
    | none => rw [hl] at e; cases e
    | some mo =>
      rw [hl] at e
      cases mo with
      | lst xs =>
        simp only [Option.some.injEq] at e
        obtain ⟨a2, u, e2, _, _, hu, ro⟩ := rh.loc hl (.loc q)
        cases e2
        cases ro with
        | lst rl => exact .inl ⟨_, SqL.of hu, by rw [← e]; exact emptyL rl⟩
      | dct _ => cases e
      | ins _ _ => cases e
  | dct _ _ _ _ => simp [truth] at e
  | ins _ _ _ => simp [truth] at e
  | cls _ => simp [truth] at e
  | scr _ => simp [truth] at e
  | ty _ => simp [truth] at e
theorem st_tr {a : Expr} {ma : ME} (ha : SE g N sc k a ma) (he : ∀ env whole, isTrue a env whole = (do let v ← whole; standAt a.pos; holding [v] (truthy v)) := by intro _ _; rfl) : ST g N sc k a (mTr ma) := fun X W c =>
  (pt_truth (ha X W c) (he X.env)).imp fun σ H Q q => by
    obtain ⟨G, ι, e, h, rs, rh, p⟩ := q
    refine tE_go rs rh p fun v h1 G1 ι1 H1 x _ gr rh1 rs1 rx p1 => ?_
    cases ht : truth h1 v with
    | none => exact absurd p1 (by simp [ht, PostR])
    | some b => exact ⟨b, by rw [c.eK]; exact truth_ok rh1 rx ht, PostR.here (x := b) (by simpa [ht] using p1) rh1 rfl⟩
/-- and, or, not of bools, as values -/
def mAnd (a b : ME) : ME := fun e h => (a e h).bind fun x h1 => match x with
  | .bl true => b e h1
  | .bl false => .ok (.bl false) h1
  | _ => .bad
def mOr (a b : ME) : ME := fun e h => (a e h).bind fun x h1 => match x with
  | .bl true => .ok (.bl true) h1
  | .bl false => b e h1
  | _ => .bad
def fNot : D → Hm → Res D
  | .bl b, h => .ok (.bl (!b)) h
  | _, _ => .bad
theorem se_one {op : BoolOp} {a : Expr} {ma : ME} {pos : Pos} (ha : SE g N sc k a ma) : SE g N sc k (.BoolOp op [a] pos) ma := fun X W c => pe_one (ha X W c)
theorem se_and {a b : Expr} {rest : List Expr} {ma mb : ME} {pos : Pos} (ha : SE g N sc k a ma) (hb : SE g N sc k (.BoolOp .And (b :: rest) pos) mb) : SE g N sc k (.BoolOp .And (a :: b :: rest) pos) (mAnd ma mb) := fun X W c =>
  (pe_and (ha X W c) (hb X W c)).imp fun σ H Q q => by
    obtain ⟨G, ι, e, h, rs, rh, p⟩ := q
    refine tE_go rs rh p fun v h1 G1 ι1 H1 x _ gr rh1 rs1 rx p1 => ?_
    cases rx <;> first
      | exact p1.elim
      | (rename_i b _
         refine ⟨b, rfl, ?_⟩
         cases b with
         | true => exact ⟨G1, ι1, e, h1, rs1, rh1, p1⟩
         | false => exact p1.here rh1 (.bl _))
theorem se_or {a b : Expr} {rest : List Expr} {ma mb : ME} {pos : Pos} (ha : SE g N sc k a ma) (hb : SE g N sc k (.BoolOp .Or (b :: rest) pos) mb) : SE g N sc k (.BoolOp .Or (a :: b :: rest) pos) (mOr ma mb) := fun X W c =>
  (pe_or (ha X W c) (hb X W c)).imp fun σ H Q q => by
    obtain ⟨G, ι, e, h, rs, rh, p⟩ := q
    refine tE_go rs rh p fun v h1 G1 ι1 H1 x _ gr rh1 rs1 rx p1 => ?_
    cases rx <;> first
      | exact p1.elim
      | (rename_i b _
         refine ⟨b, rfl, ?_⟩
         cases b with
         | false => exact ⟨G1, ι1, e, h1, rs1, rh1, p1⟩
         | true => exact p1.here rh1 (.bl _))
theorem se_not {a : Expr} {ma : ME} {pos : Pos} (ha : SE g N sc k a ma) : SE g N sc k (.UnaryOp .Not a pos) (m1 fNot ma) := fun X W c =>
  (pe_not (ha X W c)).imp fun σ H Q q => by
    obtain ⟨G, ι, e, h, rs, rh, p⟩ := q
    refine tE_go rs rh p fun v h1 G1 ι1 H1 x _ gr rh1 rs1 rx p1 => ?_
    cases rx <;> first
      | exact p1.elim
      | exact ⟨_, rfl, p1.here rh1 (.bl _)⟩
def mIf (c : MT) (a b : ME) : ME := fun e h => (c e h).bind fun v h1 => if v = true then a e h1 else b e h1
theorem se_if {c a b : Expr} {mc : MT} {ma mb : ME} {pos : Pos} (hc : ST g N sc k c mc) (ha : SE g N sc k a ma) (hb : SE g N sc k b mb) : SE g N sc k (.IfExp c a b pos) (mIf mc ma mb) := fun X W cc =>
  (pe_ifExp (hc X W cc) (ha X W cc) (hb X W cc)).imp fun σ H Q q => by
    obtain ⟨G, ι, e, h, rs, rh, p⟩ := q
    refine tT_go rs rh p fun v h1 G1 ι1 H1 _ gr rh1 rs1 p1 => ?_
    cases v with
    | true => exact ⟨G1, ι1, e, h1, rs1, rh1, p1⟩
    | false => exact ⟨G1, ι1, e, h1, rs1, rh1, p1⟩
/-- a < b < c -/
def mChain (F F' : D → D → Hm → Res D) (a b c : ME) : ME := fun e h => (a e h).bind fun x h1 => (b e h1).bind fun y h2 => (F x y h2).bind fun z h3 => match z with
  | .bl true => (c e h3).bind fun u h4 => F' y u h4
  | .bl false => .ok (.bl false) h3
  | _ => .bad
theorem tChain_of {r r' : R2} {F F' : D → D → Hm → Res D} {ma mb mc : ME} (ok : Ok2 g r F) (ok' : Ok2 g r' F') {Q : VK} (q : tE g W (mChain F F' ma mb mc) σ H Q) : tChain r r' (tE g W ma) (tE g W mb) (tE g W mc) σ H Q := by
  obtain ⟨G, ι, e, h, rs, rh, p⟩ := q
  refine tE_go rs rh p fun v h1 G1 ι1 H1 x _ gr rh1 rs1 rx p1 => tE_go rs1 rh1 p1 fun v2 h2 G2 ι2 H2 y _ gr2 rh2 rs2 ry p2 => ?_
  refine ok W σ G2 ι2 H2 h2 v v2 x y _ rh2 (rx.mono gr2.s gr2.p) ry (p2.bind fun z h3 _ G3 ι3 H3 vz gr3 rh3 rz p3 => ?_)
  cases rz <;> first
    | exact p3.elim
    | (rename_i b _
       refine ⟨b, rfl, ?_⟩
       cases b with
       | true => exact tE_go (rs2.mono gr3.s gr3.p) rh3 p3 fun u h4 G4 ι4 H4 vu _ gr4 rh4 rs4 ru p4 => ok' W σ G4 ι4 H4 h4 v2 u y vu Q rh4 (ry.mono (gr3.trans gr4).s (gr3.trans gr4).p) ru p4
       | false => exact p3.here rh3 (.bl _))
theorem se_chain {op op' : CmpOp} {F F' : D → D → Hm → Res D} {a b c : Expr} {ma mb mc : ME} {pos : Pos} (ho : ∀ X W, At g N sc k X W → ∃ r, OpR X (compareOp op) r ∧ Ok2 g r F) (ho' : ∀ X W, At g N sc k X W → ∃ r, OpR X (compareOp op') r ∧ Ok2 g r F')
    (ha : SE g N sc k a ma) (hb : SE g N sc k b mb) (hc : SE g N sc k c mc) (hm : lastMarks [op, op'] [b, c] = false := by with_unfolding_all rfl) : SE g N sc k (.Compare a [op, op'] [b, c] pos) (mChain F F' ma mb mc) := fun X W cc => by
  obtain ⟨r, h1, h2⟩ := ho X W cc
  obtain ⟨r', h1', h2'⟩ := ho' X W cc
  exact (pe_chain h1 h1' (ha X W cc) (hb X W cc) (hc X W cc) hm).imp fun σ H Q q => tChain_of h2 h2' q
theorem st_chain {op op' : CmpOp} {F F' : D → D → Hm → Res D} {a b c : Expr} {ma mb mc : ME} {pos : Pos} (ho : ∀ X W, At g N sc k X W → ∃ r, OpR X (compareOp op) r ∧ Ok2 g r F) (ho' : ∀ X W, At g N sc k X W → ∃ r, OpR X (compareOp op') r ∧ Ok2 g r F')
    (ha : SE g N sc k a ma) (hb : SE g N sc k b mb) (hc : SE g N sc k c mc) (hm : lastMarks [op, op'] [b, c] = false := by with_unfolding_all rfl) : ST g N sc k (.Compare a [op, op'] [b, c] pos) (mB (mChain F F' ma mb mc)) := fun X W cc => by
  obtain ⟨r, h1, h2⟩ := ho X W cc
  obtain ⟨r', h1', h2'⟩ := ho' X W cc
  exact (pt_chain h1 h1' (ha X W cc) (hb X W cc) (hc X W cc) hm).imp fun σ H Q q => tTest_of (fun _ _ _ z => tChain_of h2 h2' z) q
end
end MP
end L2

set_option Elab.async false
set_option linter.all false
set_option maxRecDepth 100000
set_option maxHeartbeats 2000000
namespace L2
namespace MP
open PySem PySem.Spec PyProof.Rows
section
variable {g : GX} {N : List Str} {sc : SC} {k : Nat} {W : XW} {σ : St} {G : GP} {ι : List Addr} {H : Hp} {h : Hm} {ev : Ev} {w : World} {K : PySem.W.Frag} {ca : Nat → Option Addr}

/-! ### built-ins called by their names -/
theorem At.gl {X : Cx} {W : XW} (c : At g N sc k X W) {x : Str} (hg : sc.names.lookup x = some .globalImplicit) : Gl X x := by
  show X.env.scope.names.lookup x = _
  rw [c.es]; exact hg
theorem se_callB {x : Str} {p pos : Pos} {e : Expr} {es : List Expr} {id : String} {F : List D → Hm → Res D} {ma : MA} (ho : ∀ X W, At g N sc k X W → ∃ r, CallR X (.builtin id) r ∧ OkL g r F) (hm : g.mg x = none) (hv : bootBuiltins x = some (.builtin id)) (ha : SA g N sc k (e :: es) ma)
    (hs : notStar e = true := by rfl) (hpl : ∀ env, (backTo pos (starEach es env)).any (·.1) = false := by intro _; rfl) (hg : sc.names.lookup x = some .globalImplicit := by rfl) (hn : x ≠ "__name__" := by decide) (hdb : (x == ("__debug__" : Str)) = false := by decide) :
    SE g N sc k (.Call (.Name x p) (e :: es) [] pos) (mL F ma) := fun X W c => by
  obtain ⟨r, h1, h2⟩ := ho X W c
  refine (pe_callB h1 (c.gl hg) (by rw [c.em]; exact hm) hv (ha X W c) hn hdb (star_no hs) (hpl _)).imp fun σ H Q q => ?_
  obtain ⟨G, ι, e, h, rs, rh, p⟩ := q
  exact tA_go rs rh p fun v h1 G1 ι1 H1 x _ gr rh1 rs1 rx p1 => h2 W σ G1 ι1 H1 h1 v x Q rh1 rx p1
theorem se_callTy {x : Str} {p pos : Pos} {e : Expr} {es : List Expr} {T : String} {F : List D → Hm → Res D} {ma : MA} (ho : ∀ X W, At g N sc k X W → ∃ r, CallR X (.type T) r ∧ OkL g r F) (hm : g.mg x = none) (hv : bootBuiltins x = some (.type T)) (ha : SA g N sc k (e :: es) ma)
    (hs : notStar e = true := by rfl) (hpl : ∀ env, (backTo pos (starEach es env)).any (·.1) = false := by intro _; rfl) (hg : sc.names.lookup x = some .globalImplicit := by rfl) (hn : x ≠ "__name__" := by decide) (hdb : (x == ("__debug__" : Str)) = false := by decide) :
    SE g N sc k (.Call (.Name x p) (e :: es) [] pos) (mL F ma) := fun X W c => by
  obtain ⟨r, h1, h2⟩ := ho X W c
  refine (pe_callTy h1 (c.gl hg) (by rw [c.em]; exact hm) hv (ha X W c) hn hdb (star_no hs) (hpl _)).imp fun σ H Q q => ?_
  obtain ⟨G, ι, e, h, rs, rh, p⟩ := q
  exact tA_go rs rh p fun v h1 G1 ι1 H1 x _ gr rh1 rs1 rx p1 => h2 W σ G1 ι1 H1 h1 v x Q rh1 rx p1
/-- a built-in class as a value -/
theorem se_ty (t : TyN) {x : Str} {pos : Pos} (hm : g.mg x = none) (hv : bootBuiltins x = some (.type t.nm)) (hg : sc.names.lookup x = some .globalImplicit := by rfl) (hn : x ≠ "__name__" := by decide) (hdb : (x == ("__debug__" : Str)) = false := by decide) : SE g N sc k (.Name x pos) (mC (.ty t)) := fun X W c =>
  (pe_bltn (X := X) (c.gl hg) (by rw [c.em]; exact hm) hv (v := .ty t.nm) rfl hn hdb).imp fun _ _ _ q => tC_of (fun _ _ => .ty t) q
/-- a list, for reading -/
def rdL (h : Hm) : D → Option (List D)
  | .lst xs => some xs
  | .scr ns => some (ns.map .int)
  | .loc l => match h.get l with
    | some (.lst xs) => some xs
    | _ => none
  | _ => none
theorem repL_ints : ∀ (ns : List Int), RepL w K ca G ι (ns.map .int) (ns.map .int)
  | [] => .nil
  | n :: ns => .cons (.int n) (repL_ints ns)
theorem rdL_ok (rh : RH w K ca G ι H h) {d : D} {v : V} {ds : List D} (r : Rep w K ca G ι d v) (e : rdL h d = some ds) : ∃ a xs, v = .ref a ∧ SqL K H a xs ∧ RepL w K ca G ι ds xs := by
  cases r with
  | lst q r => simp [rdL] at e; subst e; exact ⟨_, _, rfl, SqL.of (rh.le _ _ q), r⟩
  | scr q => simp [rdL] at e; subst e; exact ⟨_, _, rfl, same_sqL rh.le q, repL_ints _⟩
  | loc q =>
    rename_i l a
    cases hl : h.get l with
    | none => simp [rdL, hl] at e
    | some mo =>
      cases mo with
      | lst xs =>
        simp [rdL, hl] at e
        subst e
        obtain ⟨a2, u, e2, _, _, hu, ro⟩ := rh.loc hl (.loc q)
        cases e2
        cases ro with
        | lst rl => exact ⟨_, _, rfl, SqL.of hu, rl⟩
      | dct _ => simp [rdL, hl] at e
      | ins _ _ => simp [rdL, hl] at e
  | _ => simp [rdL] at e
/-- one argument -/
def f1 (F : D → Hm → Res D) : List D → Hm → Res D
  | [x], h => F x h
  | _, _ => .bad
def f2 (F : D → D → Hm → Res D) : List D → Hm → Res D
  | [x, y], h => F x y h
  | _, _ => .bad
theorem okL1 {r : List V → Hp → VK → Prop} {F : D → Hm → Res D} (ok : Ok1 g (fun x => r [x]) F) : OkL g r (f1 F) := fun W σ G ι H h a x Q rh ra p => by
  cases ra with
  | nil => exact p.elim
  | cons r1 t =>
    cases t with
    | cons _ _ => exact p.elim
    | nil => exact ok W σ G ι H h _ _ Q rh r1 p
theorem okL2 {r : List V → Hp → VK → Prop} {F : D → D → Hm → Res D} (ok : Ok2 g (fun x y => r [x, y]) F) : OkL g r (f2 F) := fun W σ G ι H h a x Q rh ra p => by
  cases ra with
  | nil => exact p.elim
  | cons r1 t =>
    cases t with
    | nil => exact p.elim
    | cons r2 t =>
      cases t with
      | cons _ _ => exact p.elim
      | nil => exact ok W σ G ι H h _ _ _ _ Q rh r1 r2 p
/-- len -/
def fLen : D → Hm → Res D
  | .str s, h => if s.length ≤ LIM then .ok (.int s.length) h else .bad
  | .tup xs, h => .ok (.int xs.length) h
  | x, h => match rdL h x with
    | some xs => .ok (.int xs.length) h
    | none => .bad
theorem o_len : ∀ X W, At g N sc k X W → ∃ r, CallR X (.builtin "len") r ∧ OkL g r (f1 fLen) := fun X W c => ⟨_, call_len, okL1 fun W σ G ι H h d v Q rh r p => by
  cases e : rdL h d with
  | some xs =>
    obtain ⟨a, ys, rfl, hs, rl⟩ := rdL_ok rh r e
    have p' : PostR g W σ (RpE g) G ι (.ok (.int xs.length) h) Q := by cases d <;> first | (simp [rdL] at e; done) | simpa [fLen, e] using p
    exact ⟨_, ys.length, rfl, by rw [c.eK]; exact .inl ⟨ys, hs, rfl⟩, by rw [← rl.length]; exact p'.here rh (.int _)⟩
  | none =>
    cases r with
    | str s =>
      simp only [fLen] at p
      split at p
      · rename_i hz
        exact ⟨_, s.length, rfl, ⟨by rw [lim_eq]; simpa [Str.length] using hz, by simp [Str.length]⟩, p.here rh (.int _)⟩
      · exact p.elim
    | tup q r => exact ⟨_, _, rfl, by rw [c.eK]; exact .inr ⟨_, same_sqT rh.le q, rfl⟩, by rw [← r.length]; exact PostR.here (show PostR g W σ (RpE g) G ι (.ok (.int _) h) Q from p) rh (.int _)⟩
    | _ => exact absurd p (by simp [fLen, e, PostR])⟩
/-- tuple(x), list(x) (not to be changed; to be changed) -/
def fTupOf : D → Hm → Res D
  | .tup xs, h => .ok (.tup xs) h
  | x, h => match rdL h x with
    | some xs => .ok (.tup xs) h
    | none => .bad
def rdS (h : Hm) : D → Option (List D)
  | .tup xs => some xs
  | x => rdL h x
theorem rdS_ok (rh : RH w K ca G ι H h) {d : D} {v : V} {ds : List D} (r : Rep w K ca G ι d v) (e : rdS h d = some ds) : ∃ a xs, v = .ref a ∧ (SqL K H a xs ∨ SqT K H a xs) ∧ RepL w K ca G ι ds xs := by
  by_cases ht : ∃ xs, d = .tup xs
  · obtain ⟨xs, rfl⟩ := ht
    cases r with
    | tup q r => simp [rdS] at e; subst e; exact ⟨_, _, rfl, .inr (same_sqT rh.le q), r⟩
  · have e' : rdL h d = some ds := by cases d <;> first | exact absurd ⟨_, rfl⟩ ht | exact e
    obtain ⟨a, xs, h1, h2, h3⟩ := rdL_ok rh r e'
    exact ⟨a, xs, h1, .inl h2, h3⟩
def fLstOf : D → Hm → Res D := fun x h => match rdS h x with
  | some xs => .ok (.lst xs) h
  | none => .bad
def fNewLOf : D → Hm → Res D := fun x h => match rdS h x with
  | some xs => .ok (.loc h.length) (h ++ [some (.lst xs)])
  | none => .bad
theorem o_tupOf : ∀ X W, At g N sc k X W → ∃ r, CallR X (.type "tuple") r ∧ OkL g r (f1 fTupOf) := fun X W c => ⟨_, call_tuple_of, okL1 fun W σ G ι H h d v Q rh r p => by
  cases e : rdL h d with
  | some xs =>
    obtain ⟨a, ys, rfl, hs, rl⟩ := rdL_ok rh r e
    have p' : PostR g W σ (RpE g) G ι (.ok (.tup xs) h) Q := by cases d <;> first | (simp [rdL] at e; done) | simpa [fTupOf, e] using p
    exact ⟨a, ys, rfl, .inl ⟨by rw [c.eK]; exact hs, new_tup rh rl p'⟩⟩
  | none =>
    cases r with
    | tup q r => exact ⟨_, _, rfl, .inr ⟨by rw [c.eK]; exact same_sqT rh.le q, PostR.here (show PostR g W σ (RpE g) G ι (.ok (.tup _) h) Q from p) rh (.tup q r)⟩⟩
    | _ => exact absurd p (by simp [fTupOf, e, PostR])⟩
theorem o_lstOf : ∀ X W, At g N sc k X W → ∃ r, CallR X (.type "list") r ∧ OkL g r (f1 fLstOf) := fun X W c => ⟨_, call_list_of, okL1 fun W σ G ι H h d v Q rh r p => by
  cases e : rdS h d with
  | some xs =>
    obtain ⟨a, ys, rfl, hs, rl⟩ := rdS_ok rh r e
    exact ⟨a, ys, rfl, by rw [c.eK]; exact hs, new_lst rh rl (by simpa [fLstOf, e] using p)⟩
  | none => exact absurd p (by simp [fLstOf, e, PostR])⟩
theorem o_newLOf : ∀ X W, At g N sc k X W → ∃ r, CallR X (.type "list") r ∧ OkL g r (f1 fNewLOf) := fun X W c => ⟨_, call_list_of, okL1 fun W σ G ι H h d v Q rh r p => by
  cases e : rdS h d with
  | some xs =>
    obtain ⟨a, ys, rfl, hs, rl⟩ := rdS_ok rh r e
    exact ⟨a, ys, rfl, by rw [c.eK]; exact hs, new_loc rh (fun _ _ => .lst rl) (by simpa [fNewLOf, e] using p)⟩
  | none => exact absurd p (by simp [fNewLOf, e, PostR])⟩
/-- max(i, j), min(i, j) -/
def fMax2 : D → D → Hm → Res D
  | .int i, .int j, h => .ok (.int (if j > i then j else i)) h
  | _, _, _ => .bad
def fMin2 : D → D → Hm → Res D
  | .int i, .int j, h => .ok (.int (if j < i then j else i)) h
  | _, _, _ => .bad
theorem o_max2 : ∀ X W, At g N sc k X W → ∃ r, CallR X (.builtin "max") r ∧ OkL g r (f2 fMax2) := fun X W c => ⟨_, call_max2 c.calm, okL2 fun W σ G ι H h a b x y Q rh ra rb p => by
  cases ra <;> cases rb <;> first
    | exact p.elim
    | exact ⟨_, _, rfl, p.here rh (.int _)⟩⟩
theorem o_min2 : ∀ X W, At g N sc k X W → ∃ r, CallR X (.builtin "min") r ∧ OkL g r (f2 fMin2) := fun X W c => ⟨_, call_min2 c.calm, okL2 fun W σ G ι H h a b x y Q rh ra rb p => by
  cases ra <;> cases rb <;> first
    | exact p.elim
    | exact ⟨_, _, rfl, p.here rh (.int _)⟩⟩

/-! ### subscripts, slices -/
def fIx : D → D → Hm → Res D
  | .str s, .int i, h => if s.length ≤ LIM then (match atI s i with | some ch => .ok (.str [ch]) h | none => .bad) else .bad
  | a, .int i, h => match rdS h a with
    | some xs => match atI xs i with
      | some d => .ok d h
      | none => .bad
    | none => .bad
  | _, _, _ => .bad
theorem atI_rep {ds : List D} {xs : List V} {i : Int} {d : D} (r : RepL w K ca G ι ds xs) (e : atI ds i = some d) : ∃ v, atI xs i = some v ∧ Rep w K ca G ι d v := by
  unfold atI at e ⊢
  rw [← r.length]
  cases hj : ixN ds.length i with
  | none => rw [hj] at e; cases e
  | some j =>
    rw [hj] at e
    exact r.get' e
theorem o_ix : ∀ X W, At g N sc k X W → ∃ r, IxR X r ∧ Ok2 g r fIx := fun X W c => ⟨_, ix_seq, fun W σ G ι H h a b x y Q rh ra rb p => by
  have seq : ∀ {xs : List D} {i : Int}, rdS h a = some xs → PostR g W σ (RpE g) G ι (match atI xs i with | some d => .ok d h | none => .bad) Q → rIx X.K x (.int i) H Q := fun {xs i} e p => by
    obtain ⟨p0, ys, rfl, hs, rl⟩ := rdS_ok rh ra e
    cases ei : atI xs i with
    | none => exact absurd p (by simp [ei, PostR])
    | some d =>
      obtain ⟨z, ez, rz⟩ := atI_rep rl ei
      have q : Q z H := PostR.here (show PostR g W σ (RpE g) G ι (.ok d h) Q by simpa [ei] using p) rh rz
      rw [c.eK]
      rcases hs with hs | hs
      · exact .inl ⟨p0, ys, i, z, rfl, rfl, hs, ez, q⟩
      · exact .inr (.inl ⟨p0, ys, i, z, rfl, rfl, hs, ez, q⟩)
  cases rb with
  | int i =>
    by_cases ht : ∃ s, a = .str s
    · obtain ⟨s, rfl⟩ := ht
      cases ra with
      | str s =>
        simp only [fIx] at p
        split at p
        · rename_i hz
          split at p
          · rename_i ch e
            exact .inr (.inr ⟨_, i, ch, rfl, rfl, by rw [lim_eq]; simpa [Str.length] using hz, by simpa using e, p.here rh (.str _)⟩)
          · exact p.elim
        · exact p.elim
    · have p' : PostR g W σ (RpE g) G ι (match rdS h a with | some xs => (match atI xs i with | some d => .ok d h | none => .bad) | none => .bad) Q := by cases a <;> first | exact absurd ⟨_, rfl⟩ ht | exact p
      cases e : rdS h a with
      | none => exact absurd p' (by simp [e, PostR])
      | some xs => exact seq e (by simpa [e] using p')
  | _ => exact absurd p (by cases a <;> simp [fIx, PostR])⟩
theorem se_ix {a b : Expr} {ma mb : ME} {pos : Pos} {F : D → D → Hm → Res D} (ho : ∀ X W, At g N sc k X W → ∃ r, IxR X r ∧ Ok2 g r F) (ha : SE g N sc k a ma) (hb : SE g N sc k b mb) (hs : PlainIx b := by intro _ _; rfl) : SE g N sc k (.Subscript a b pos) (m2 F ma mb) := fun X W c => by
  obtain ⟨r, h1, h2⟩ := ho X W c
  exact (pe_ix h1 (ha X W c) (hb X W c) hs).imp fun σ H Q q => tOp_of h2 q
/-- parts of a slice -/
abbrev MO1 := Ev → Hm → Res (Option Int)
def tO (g : GX) (W : XW) (m : MO1) : TO := fun σ H Q => ∃ G ι e h, RS g.w g.K g.ca G ι σ e ∧ RH g.w g.K g.ca G ι H h ∧ PostR g W σ (fun _ _ (b c : Option Int) => b = c) G ι (m e h) Q
def SO (g : GX) (N : List Str) (sc : SC) (k : Nat) (e : Option Expr) (m : MO1) : Prop := ∀ X W, At g N sc k X W → PO X e (tO g W m)
def oNone : MO1 := fun _ h => .ok none h
def oSome (a : ME) : MO1 := fun e h => (a e h).bind fun x h1 => match x with | .int i => .ok (some i) h1 | _ => .bad
theorem _root_.L2.PO.imp {X : Cx} {e : Option Expr} {t t' : TO} (h : PO X e t) (w : ∀ σ H Q, t' σ H Q → t σ H Q) : PO X e t' := ⟨fun pins s σ H Q I q => h.run pins s σ H Q I (w _ _ _ q)⟩
theorem so_none : SO g N sc k none oNone := fun X W c => po_none.imp fun σ H Q q => by
  obtain ⟨G, ι, e, h, rs, rh, p⟩ := q
  exact p.here (x := none) rh rfl
theorem so_some {e : Expr} {m : ME} (he : SE g N sc k e m) : SO g N sc k (some e) (oSome m) := fun X W c => (po_some (he X W c)).imp fun σ H Q q => by
  obtain ⟨G, ι, e, h, rs, rh, p⟩ := q
  refine tE_go rs rh p fun v h1 G1 ι1 H1 x _ gr rh1 rs1 rx p1 => ?_
  cases rx <;> first
    | exact p1.elim
    | exact ⟨_, rfl, p1.here (x := some _) rh1 rfl⟩
def cutD {α : Type} (xs : List α) (lo hi : Option Int) : List α := (xs.drop (HT.sIx xs.length 0 lo)).take (HT.sIx xs.length xs.length hi - HT.sIx xs.length 0 lo)
def fSl : D → Option Int → Option Int → Hm → Res D
  | .tup xs, lo, hi, h => .ok (.tup (cutD xs lo hi)) h
  | a, lo, hi, h => match rdL h a with
    | some xs => .ok (.lst (cutD xs lo hi)) h
    | none => .bad
def mSl (a : ME) (lo hi : MO1) : ME := fun e h => (a e h).bind fun x h1 => (lo e h1).bind fun l h2 => (hi e h2).bind fun u h3 => fSl x l u h3
theorem cut_rep {ds : List D} {xs : List V} (r : RepL w K ca G ι ds xs) (lo hi : Option Int) : RepL w K ca G ι (cutD ds lo hi) (cutV xs lo hi) := by
  unfold cutD cutV
  rw [r.length]
  exact (r.drop _).take _
theorem cut_whole {ds : List D} {lo hi : Option Int} {n : Nat} (hn : ds.length = n) (e : HT.sIx n 0 lo = 0 ∧ HT.sIx n n hi = n) : cutD ds lo hi = ds := by
  unfold cutD
  rw [hn, e.1, e.2, List.drop_zero, ← hn]
  simp
theorem se_sl {a : Expr} {lo hi : Option Expr} {ma : ME} {ml mh : MO1} {pos p2 : Pos} (ha : SE g N sc k a ma) (hl : SO g N sc k lo ml) (hh : SO g N sc k hi mh) : SE g N sc k (.Subscript a (.Slice lo hi none p2) pos) (mSl ma ml mh) := fun X W c =>
  (pe_slice (sl_tupA.or sl_list) (ha X W c) (hl X W c) (hh X W c)).imp fun σ H Q q => by
    obtain ⟨G, ι, e, h, rs, rh, p⟩ := q
    refine tE_go rs rh p fun v h1 G1 ι1 H1 x _ gr rh1 rs1 rx p1 => ?_
    refine ⟨G1, ι1, e, h1, rs1, rh1, p1.bind fun l h2 _ G2 ι2 H2 l' gr2 rh2 el p2 => ?_⟩
    subst el
    refine ⟨G2, ι2, e, h2, rs1.mono gr2.s gr2.p, rh2, p2.bind fun u h3 _ G3 ι3 H3 u' gr3 rh3 eu p3 => ?_⟩
    subst eu
    have rx3 := rx.mono (gr2.trans gr3).s (gr2.trans gr3).p
    cases er : rdL h3 v with
    | some xs =>
      obtain ⟨a, ys, rfl, hs, rl⟩ := rdL_ok rh3 rx3 er
      have p' : PostR g W σ (RpE g) G3 ι3 (.ok (.lst (cutD xs l u)) h3) Q := by cases v <;> first | (simp [rdL] at er; done) | simpa [fSl, er] using p3
      exact .inr ⟨a, ys, rfl, by rw [c.eK]; exact hs, new_lst rh3 (cut_rep rl l u) p'⟩
    | none =>
      cases rx3 with
      | tup q r =>
        have p' : PostR g W σ (RpE g) G3 ι3 (.ok (.tup (cutD _ l u)) h3) Q := p3
        refine .inl ⟨_, _, rfl, by rw [c.eK]; exact same_sqT rh3.le q, fun ew => ?_, fun _ => new_tup rh3 (cut_rep r l u) p'⟩
        rw [cut_whole r.length ew] at p'
        exact p'.here rh3 (.tup q r)
      | _ => exact absurd p3 (by simp [fSl, er, PostR])
end
end MP
end L2

set_option Elab.async false
set_option linter.all false
set_option maxRecDepth 100000
set_option maxHeartbeats 2000000
namespace L2
namespace MP
open PySem PySem.Spec PyProof.Rows
section
variable {g : GX} {N : List Str} {sc : SC} {k : Nat} {W : XW} {σ : St} {G : GP} {ι : List Addr} {H : Hp} {h : Hm} {ev : Ev} {w : World} {K : PySem.W.Frag} {ca : Nat → Option Addr}

/-! ### targets -/
abbrev Tg := D → Ev → Option Ev
/-- σ' is σ outside of the slots vs -/
def Off (vs : List Nat) (σ σ' : St) : Prop := σ'.length = σ.length ∧ ∀ i, i ∉ vs → σ'[i]? = σ[i]?
theorem Off.refl {vs : List Nat} {σ : St} : Off vs σ σ := ⟨rfl, fun _ _ => rfl⟩
theorem Off.trans {vs : List Nat} {σ σ1 σ2 : St} (a : Off vs σ σ1) (b : Off vs σ1 σ2) : Off vs σ σ2 := ⟨b.1.trans a.1, fun i hi => (b.2 i hi).trans (a.2 i hi)⟩
theorem Off.mono {vs vs' : List Nat} {σ σ1 : St} (a : Off vs σ σ1) (h : ∀ i ∈ vs, i ∈ vs') : Off vs' σ σ1 := ⟨a.1, fun i hi => a.2 i fun z => hi (h i z)⟩
theorem wipe_off {vs : List Nat} {σ σ' : St} (a : Off vs σ σ') : wipe σ' vs = wipe σ vs := by
  have get : ∀ (σ : St) (ws : List Nat) (i : Nat), (wipe σ ws)[i]? = if i ∈ ws then (if i < σ.length then some none else none) else σ[i]? := by
    intro σ ws i
    induction ws with
    | nil => simp [wipe]
    | cons v vs ih =>
      unfold wipe
      by_cases hv : v = i
      · subst hv
        rw [if_pos List.mem_cons_self]
        by_cases hl : v < σ.length
        · rw [if_pos hl, List.getElem?_set_self (by rw [wipe_length]; exact hl)]
        · rw [if_neg hl, List.getElem?_eq_none (by simp [wipe_length]; omega)]
      · rw [List.getElem?_set_ne hv, ih]
        by_cases hm : i ∈ vs
        · rw [if_pos hm, if_pos (List.mem_cons_of_mem _ hm)]
        · rw [if_neg hm, if_neg (by simp [hm, Ne.symm hv])]
  apply List.ext_getElem?
  intro i
  rw [get, get]
  by_cases hm : i ∈ vs
  · rw [if_pos hm, if_pos hm, a.1]
  · rw [if_neg hm, if_neg hm, a.2 i hm]
theorem wipe_is {vs : List Nat} {σ : St} : Off vs σ (wipe σ vs) := by
  refine ⟨wipe_length _ _, fun i hi => ?_⟩
  induction vs with
  | nil => rfl
  | cons v vs ih =>
    unfold wipe
    rw [List.getElem?_set_ne (fun z => hi (by simp [z]))]
    exact ih fun z => hi (List.mem_cons_of_mem _ z)
def tG (g : GX) (vs : List Nat) (t : Tg) : TG := fun v σ H Q => ∃ G ι e h d, RS g.w g.K g.ca G ι σ e ∧ RH g.w g.K g.ca G ι H h ∧ Rep g.w g.K g.ca G ι d v ∧ ∃ e', t d e = some e' ∧ ∀ σ', RS g.w g.K g.ca G ι σ' e' → Off vs σ σ' → Q σ' H
def SG (g : GX) (N : List Str) (sc : SC) (k : Nat) (tg : Expr) (vs : List Nat) (t : Tg) : Prop := ∀ X W, At g N sc k X W → PG X tg (tG g vs t)
def gN (i : Nat) : Tg := fun d e => some (e.set i (some d))
abbrev Tgs := List D → Ev → Option Ev
def tGs (g : GX) (vs : List Nat) (t : Tgs) : TGs := fun v σ H Q => ∃ G ι e h d, RS g.w g.K g.ca G ι σ e ∧ RH g.w g.K g.ca G ι H h ∧ RepL g.w g.K g.ca G ι d v ∧ ∃ e', t d e = some e' ∧ ∀ σ', RS g.w g.K g.ca G ι σ' e' → Off vs σ σ' → Q σ' H
def SGs (g : GX) (N : List Str) (sc : SC) (k : Nat) (tg : List Expr) (vs : List Nat) (t : Tgs) : Prop := ∀ X W, At g N sc k X W → PGs X tg (tGs g vs t)
theorem _root_.L2.PG.imp {X : Cx} {e : Expr} {t t' : TG} (h : PG X e t) (w : ∀ v σ H Q, t' v σ H Q → t v σ H Q) : PG X e t' := ⟨fun pins s σ H v u Q I r q => h.run pins s σ H v u Q I r (w _ _ _ _ q)⟩
theorem _root_.L2.PGs.imp {X : Cx} {e : List Expr} {t t' : TGs} (h : PGs X e t) (w : ∀ v σ H Q, t' v σ H Q → t v σ H Q) : PGs X e t' := ⟨fun pins s σ H v u Q I r q => h.run pins s σ H v u Q I r (w _ _ _ _ q)⟩
theorem set_off (i : Nat) (σ : St) (v : Option V) : Off [i] σ (σ.set i v) := ⟨by simp, fun j hj => by rw [List.getElem?_set_ne (fun z => hj (by simp [z]))]⟩
theorem sg_name (i : Nat) {x : Str} {pos : Pos} (hN : N[i]? = some x := by rfl) (hx : Lc sc x := by first | exact Or.inl rfl | exact Or.inr ⟨rfl, rfl⟩) : SG g N sc k (.Name x pos) [i] (gN i) := fun X W c =>
  (pg_name (i := i) c.nd (by rw [c.eN]; exact hN) (c.lc hx) (c.loc hx)).imp fun v σ H Q q => by
    obtain ⟨G, ι, e, h, d, rs, rh, r, e', et, q⟩ := q
    cases et
    exact q _ (rs.set r) (set_off i σ _)
def gNil : Tgs := fun ds e => if ds.isEmpty then some e else none
def gCons (t : Tg) (u : Tgs) : Tgs := fun ds e => match ds with
  | d :: r => (t d e).bind fun e1 => u r e1
  | [] => none
theorem sgs_nil : SGs g N sc k [] [] gNil := fun X W c => pgs_nil.imp fun v σ H Q q => by
  obtain ⟨G, ι, e, h, d, rs, rh, r, e', et, q⟩ := q
  cases r with
  | nil => cases et; exact ⟨rfl, q σ rs Off.refl⟩
  | cons _ _ => cases et
theorem sgs_cons {x : Expr} {es : List Expr} {vs ws : List Nat} {t : Tg} {u : Tgs} (h1 : SG g N sc k x vs t) (h2 : SGs g N sc k es ws u) (hs : ∀ env, (assignEach (x :: es) env).map (·.2) = assign x env :: (assignEach es env).map (·.2) := by intro _; rfl) : SGs g N sc k (x :: es) (vs ++ ws) (gCons t u) := fun X W c =>
  (pgs_cons (h1 X W c) (h2 X W c) (hs X.env)).imp fun v σ H Q q => by
    obtain ⟨G, ι, e, h, d, rs, rh, r, e', et, q⟩ := q
    cases r with
    | nil => cases et
    | cons rd rt =>
      rename_i d1 v1 ds1 vs1
      have et' : (t d1 e).bind (fun e1 => u ds1 e1) = some e' := et
      cases ea : t d1 e with
      | none => rw [ea] at et'; cases et'
      | some e1 =>
        rw [ea] at et'
        exact ⟨_, _, rfl, G, ι, e, h, d1, rs, rh, rd, e1, ea, fun σ1 rs1 o1 => ⟨G, ι, e1, h, ds1, rs1, rh, rt, e', et', fun σ2 rs2 o2 => q σ2 rs2 ((o1.mono fun i hi => List.mem_append_left _ hi).trans (o2.mono fun i hi => List.mem_append_right _ hi))⟩⟩
def gT (u : Tgs) : Tg := fun d e => match d with
  | .tup xs => u xs e
  | _ => none
theorem tgs_len {es : List Expr} {n : Nat} (h : ∀ env, (assignEach es env).length = n) : True := trivial
/-- a tuple of targets: n of them -/
def gTn (n : Nat) (u : Tgs) : Tg := fun d e => match d with
  | .tup xs => if xs.length = n then u xs e else none
  | _ => none
theorem sg_tup {es : List Expr} {kk n : Nat} {pos : Pos} {vs : List Nat} {u : Tgs} (h : SGs g N sc k es vs u) (hn : ∀ env, (assignEach es env).length = n := by intro _; rfl) (hst : ∀ env, (assignEach es env).findIdx? (·.1) = none := by intro _; rfl) : SG g N sc k (.Tuple es kk pos) vs (gTn n u) := fun X W c =>
  (pg_tup c.calm (h X W c) (hn X.env) (hst X.env)).imp fun v σ H Q q => by
    obtain ⟨G, ι, e, h, d, rs, rh, r, e', et, q⟩ := q
    cases r with
    | tup hq rl =>
      simp only [gTn] at et
      split at et
      · rename_i hl
        exact ⟨_, _, rfl, by rw [c.eK]; exact same_sqT rh.le hq, by rw [← rl.length]; exact hl, G, ι, e, h, _, rs, rh, rl, e', et, q⟩
      · cases et
    | _ => cases et
/-- a target given a value -/
def sAsg (a : ME) (t : Tg) : MS := fun e h => match a e h with
  | .ok v h1 => (match t v e with
    | some e1 => .nx e1 h1
    | none => .bad)
  | .exc c h1 => .ex c e h1
  | .bad => .bad
theorem ss_asg {tg x : Expr} {m : ME} {vs : List Nat} {t : Tg} {pos : Pos} (he : SE g N sc k x m) (hg : SG g N sc k tg vs t) (hs : ∀ env, swapsWithSole [tg] x pos.line env = pure false := by intro _; rfl) (hw : ∀ env, swappedStores [tg] x env = pure none := by intro _; rfl)
    (h1 : ∀ env, (assignEach [tg] env).map (·.2) = [assign tg env] := by intro _; rfl) : SS g N sc k (.Assign [tg] x pos) (sAsg m t) := fun X W c => (ps_asg (he X W c) (hg X W c) (hs _) (hw _) (h1 _)).imp fun D σ H q => by
  obtain ⟨G, ι, e, h, rs, rh, p⟩ := q
  refine tE_s (f := fun v h1 => match t v e with | some e1 => .nx e1 h1 | none => .bad) rs rh rfl p fun v h' G' ι' H' x gr rh' rs' rx p' => ?_
  cases et : t v e with
  | none => rw [et] at p'; exact p'.elim
  | some e1 =>
    rw [et] at p'
    exact ⟨G', ι', e, h', v, rs', rh', rx, e1, et, fun σ' rs2 _ => p' G' ι' H' σ' Gr.refl rh' rs2⟩
/-- a, b = x, y; a, b, c = x, y, z: plain names -/
def sPar (is : List Nat) (a : MA) : MS := fun e h => match a e h with
  | .ok vs h1 => (match is, vs with
    | [i, j], [v, u] => .nx ((e.set i (some v)).set j (some u)) h1
    | [i, j, l], [v, u, z] => .nx (((e.set i (some v)).set j (some u)).set l (some z)) h1
    | _, _ => .bad)
  | .exc c h1 => .ex c e h1
  | .bad => .bad
theorem tA_s {m : MA} {f : List D → Hm → SRes} {Dd : Ends} {Q : List V → Hp → Prop} {r : SRes} (rs : RS g.w g.K g.ca G ι σ ev) (rh : RH g.w g.K g.ca G ι H h) (hr : r = match m ev h with | .ok v h1 => f v h1 | .exc c h1 => .ex c ev h1 | .bad => .bad) (p : PostS g W G ι r Dd)
    (k : ∀ v h' G' ι' H' x, Gr G ι G' ι' → RH g.w g.K g.ca G' ι' H' h' → RS g.w g.K g.ca G' ι' σ ev → RepL g.w g.K g.ca G' ι' v x → PostS g W G' ι' (f v h') Dd → Q x H') : tA g W m σ H Q := by
  subst hr
  refine ⟨G, ι, ev, h, rs, rh, ?_⟩
  cases e : m ev h with
  | ok v h1 =>
    rw [e] at p
    exact fun G' ι' H' x gr rh' rx => k v h1 G' ι' H' x gr rh' (rs.mono gr.s gr.p) rx (PostS.grow gr p)
  | exc c h1 =>
    rw [e] at p
    exact fun G' ι' H' gr rh' => p G' ι' H' σ gr rh' (rs.mono gr.s gr.p)
  | bad => rw [e] at p; exact p
theorem ss_par2 (i j : Nat) {x y : Str} {a b : Expr} {m : MA} {px py pt pos : Pos} {kt k2 : Nat} {pt2 : Pos} (ha : SA g N sc k [a, b] m) (hij : i ≠ j := by decide) (hi : N[i]? = some x := by rfl) (hj : N[j]? = some y := by rfl) (hx : sc.names.lookup x = some .local := by rfl) (hy : sc.names.lookup y = some .local := by rfl)
    (hw : ∀ env : Env, env.scope = sc.scope → swappedStores [.Tuple [.Name x px, .Name y py] kt pt] (.Tuple [a, b] k2 pt2) env = pure (some [x, y]))
    (hs : ∀ env, swapsWithSole [.Tuple [.Name x px, .Name y py] kt pt] (.Tuple [a, b] k2 pt2) pos.line env = pure false := by intro _; rfl) : SS g N sc k (.Assign [.Tuple [.Name x px, .Name y py] kt pt] (.Tuple [a, b] k2 pt2) pos) (sPar [i, j] m) := fun X W c =>
  (ps_par (i := i) (j := j) c.calm c.nd (by rw [c.eN]; exact hi) (by rw [c.eN]; exact hj) hij (by rw [c.es]; exact hx) (by rw [c.es]; exact hy) (ha X W c) (hw _ c.es) (hs _)).imp fun D σ H q => by
    obtain ⟨G, ι, e, h, rs, rh, p⟩ := q
    refine tA_s (f := fun vs h1 => match [i, j], vs with
      | [i, j], [v, u] => .nx ((e.set i (some v)).set j (some u)) h1
      | [i, j, l], [v, u, z] => .nx (((e.set i (some v)).set j (some u)).set l (some z)) h1
      | _, _ => .bad) rs rh rfl p fun v h' G' ι' H' x gr rh' rs' rx p' => ?_
    cases rx with
    | nil => exact p'.elim
    | cons r1 t1 =>
      cases t1 with
      | nil => exact p'.elim
      | cons r2 t2 =>
        cases t2 with
        | cons _ _ => exact p'.elim
        | nil => exact ⟨_, _, rfl, p' G' ι' H' _ Gr.refl rh' ((rs'.set r1).set r2)⟩
theorem ss_par3 (i j l : Nat) {x y z : Str} {a b cc : Expr} {m : MA} {px py pz pt pos : Pos} {kt k2 : Nat} {pt2 : Pos} (ha : SA g N sc k [a, b, cc] m) (hij : i ≠ j := by decide) (hil : i ≠ l := by decide) (hjl : j ≠ l := by decide) (hi : N[i]? = some x := by rfl) (hj : N[j]? = some y := by rfl) (hl : N[l]? = some z := by rfl)
    (hx : sc.names.lookup x = some .local := by rfl) (hy : sc.names.lookup y = some .local := by rfl) (hz : sc.names.lookup z = some .local := by rfl)
    (hw : ∀ env : Env, env.scope = sc.scope → swappedStores [.Tuple [.Name x px, .Name y py, .Name z pz] kt pt] (.Tuple [a, b, cc] k2 pt2) env = pure (some [x, y, z]))
    (hs : ∀ env, swapsWithSole [.Tuple [.Name x px, .Name y py, .Name z pz] kt pt] (.Tuple [a, b, cc] k2 pt2) pos.line env = pure false := by intro _; rfl) : SS g N sc k (.Assign [.Tuple [.Name x px, .Name y py, .Name z pz] kt pt] (.Tuple [a, b, cc] k2 pt2) pos) (sPar [i, j, l] m) := fun X W c =>
  (ps_par3 (i := i) (j := j) (l := l) c.calm c.nd (by rw [c.eN]; exact hi) (by rw [c.eN]; exact hj) (by rw [c.eN]; exact hl) hij hil hjl (by rw [c.es]; exact hx) (by rw [c.es]; exact hy) (by rw [c.es]; exact hz) (ha X W c) (hw _ c.es) (hs _)).imp fun D σ H q => by
    obtain ⟨G, ι, e, h, rs, rh, p⟩ := q
    refine tA_s (f := fun vs h1 => match [i, j, l], vs with
      | [i, j], [v, u] => .nx ((e.set i (some v)).set j (some u)) h1
      | [i, j, l], [v, u, z] => .nx (((e.set i (some v)).set j (some u)).set l (some z)) h1
      | _, _ => .bad) rs rh rfl p fun v h' G' ι' H' x gr rh' rs' rx p' => ?_
    cases rx with
    | nil => exact p'.elim
    | cons r1 t1 =>
      cases t1 with
      | nil => exact p'.elim
      | cons r2 t2 =>
        cases t2 with
        | nil => exact p'.elim
        | cons r3 t3 =>
          cases t3 with
          | cons _ _ => exact p'.elim
          | nil => exact ⟨_, _, _, rfl, p' G' ι' H' _ Gr.refl rh' (((rs'.set r1).set r2).set r3)⟩

/-! ### loops -/
/-- the iterator gives just these values -/
def ItOk (g : GX) (J : It) (G : GP) (ι : List Addr) (ds : List D) : Prop :=
  ∀ (G1 : GP) ι1 H1 h1, Same G.f G1.f → ι <+: ι1 → RH g.w g.K g.ca G1 ι1 H1 h1 → J.stop ds.length H1 ∧ ∀ i d, ds[i]? = some d → J.go i H1 ∧ ∀ x H2, J.yld i H1 x H2 → ∃ G2, Gr G1 ι1 G2 ι1 ∧ RH g.w g.K g.ca G2 ι1 H2 h1 ∧ Rep g.w g.K g.ca G2 ι1 d x
abbrev MI := Ev → Hm → Res (List D)
def tI (g : GX) (W : XW) (m : MI) : TI := fun σ H R => ∃ G ι e h, RS g.w g.K g.ca G ι σ e ∧ RH g.w g.K g.ca G ι H h ∧ PostR g W σ (fun G' ι' ds J => ItOk g J G' ι' ds) G ι (m e h) R
def SI (g : GX) (N : List Str) (sc : SC) (k : Nat) (tg iter : Expr) (m : MI) : Prop := ∀ X W, At g N sc k X W → PI X tg iter (tI g W m)
theorem _root_.L2.PI.imp {X : Cx} {tg e : Expr} {t t' : TI} (h : PI X tg e t) (w : ∀ σ H Q, t' σ H Q → t σ H Q) : PI X tg e t' := ⟨fun pins s σ H Q I q => h.run pins s σ H Q I (w _ _ _ q)⟩
def forL (t : Tg) (body : MS) : List D → Ev → Hm → SRes
  | [], e, h => .nx e h
  | d :: ds, e, h => match t d e with
    | none => .bad
    | some e1 => match body e1 h with
      | .nx e2 h2 => forL t body ds e2 h2
      | .ct e2 h2 => forL t body ds e2 h2
      | .bk e2 h2 => .nx e2 h2
      | r => r
def sFor (m : MI) (t : Tg) (body : MS) : MS := fun e h => match m e h with
  | .ok ds h1 => forL t body ds e h1
  | .exc c h1 => .ex c e h1
  | .bad => .bad
theorem ss_for {tg iter : Expr} {body : List Stmt} {m : MI} {vs : List Nat} {t : Tg} {b : MS} {pos : Pos} (hi : SI g N sc k tg iter m) (hg : SG g N sc k tg vs t) (hb : SB g N sc k body b) (hs : ∀ env x, foldedSetIterable iter env x = pure x := by intro _ _; rfl) : SS g N sc k (.For tg iter body [] pos) (sFor m t b) := fun X W c =>
  (ps_for c.po c.calm (hi X W c) (hg X W c) (hb X W c) (hs _)).imp fun D σ H q => by
    obtain ⟨G, ι, e, h, rs, rh, p⟩ := q
    refine ⟨G, ι, e, h, rs, rh, ?_⟩
    unfold sFor at p
    cases em : m e h with
    | bad => rw [em] at p; exact p
    | exc x h1 => rw [em] at p; exact fun G' ι' H' gr rh' => p G' ι' H' σ gr rh' (rs.mono gr.s gr.p)
    | ok ds h1 =>
      rw [em] at p
      intro G1 ι1 H1 J gr rh1 ok
      refine ⟨fun i m σ H => m = ds.length - i ∧ i ≤ ds.length ∧ ∃ G2 ι2 e2 h2, Gr G1 ι1 G2 ι2 ∧ RS g.w g.K g.ca G2 ι2 σ e2 ∧ RH g.w g.K g.ca G2 ι2 H h2 ∧ PostS g W G2 ι2 (forL t b (ds.drop i) e2 h2) D,
        ⟨ds.length, by simp, Nat.zero_le _, G1, ι1, e, h1, Gr.refl, rs.mono gr.s gr.p, rh1, PostS.grow gr p⟩, ?_⟩
      rintro i m σ H ⟨rfl, hi, G2, ι2, e2, h2, gr2, rs2, rh2, p2⟩
      obtain ⟨stop, turn⟩ := ok G2 ι2 H h2 gr2.s gr2.p rh2
      by_cases hlt : i < ds.length
      · have hd : ds[i]? = some ds[i] := by simp [hlt]
        obtain ⟨go, yl⟩ := turn i _ hd
        have hdrop : ds.drop i = ds[i] :: ds.drop (i + 1) := List.drop_eq_getElem_cons hlt
        rw [hdrop] at p2
        simp only [forL] at p2
        refine .inr ⟨go, fun σ' H' => ∃ G3 ι3 e3 h3, Gr G1 ι1 G3 ι3 ∧ RS g.w g.K g.ca G3 ι3 σ' e3 ∧ RH g.w g.K g.ca G3 ι3 H' h3 ∧ PostS g W G3 ι3 (forL t b (ds.drop (i + 1)) e3 h3) D, fun σ' H' z => ⟨ds.length - (i + 1), by omega, rfl, hlt, z⟩, fun x H' y => ?_⟩
        obtain ⟨G3, gr3, rh3, rx⟩ := yl x H' y
        cases et : t ds[i] e2 with
        | none => rw [et] at p2; exact p2.elim
        | some e3 =>
          rw [et] at p2
          refine ⟨G3, ι2, e2, h2, ds[i], rs2.mono gr3.s gr3.p, rh3, rx, e3, et, fun σ' rs' _ => ⟨G3, ι2, e3, h2, rs', rh3, ?_⟩⟩
          have p3 := PostS.grow gr3 p2
          simp only at p3
          cases eb : b e3 h2 with
          | nx e4 h4 => rw [eb] at p3; exact fun G' ι' H'' σ'' gr' rh' rs'' => ⟨G', ι', e4, h4, (gr2.trans gr3).trans gr', rs'', rh', PostS.grow gr' p3⟩
          | ct e4 h4 => rw [eb] at p3; exact fun G' ι' H'' σ'' gr' rh' rs'' => ⟨G', ι', e4, h4, (gr2.trans gr3).trans gr', rs'', rh', PostS.grow gr' p3⟩
          | bk e4 h4 => rw [eb] at p3; exact p3
          | rt v h4 => rw [eb] at p3; exact p3
          | ex x e4 h4 => rw [eb] at p3; exact p3
          | bad => rw [eb] at p3; exact p3
      · have e0 : i = ds.length := by omega
        subst e0
        rw [List.drop_length] at p2
        exact .inl ⟨stop, p2 G2 ι2 H σ Gr.refl rh2 rs2⟩
def whileN (c : MT) (body : MS) : Nat → Ev → Hm → SRes
  | 0, _, _ => .bad
  | n + 1, e, h => match c e h with
    | .ok true h1 => (match body e h1 with
      | .nx e2 h2 => whileN c body n e2 h2
      | .ct e2 h2 => whileN c body n e2 h2
      | .bk e2 h2 => .nx e2 h2
      | r => r)
    | .ok false h1 => .nx e h1
    | .exc x h1 => .ex x e h1
    | .bad => .bad
def sWhile (n : Nat) (c : MT) (body : MS) : MS := whileN c body n
theorem ss_while (n : Nat) {test : Expr} {body : List Stmt} {mc : MT} {b : MS} {pos : Pos} (hc : ST g N sc k test mc) (hb : SB g N sc k body b) : SS g N sc k (.While test body [] pos) (sWhile n mc b) := fun X W c =>
  (ps_while c.po (hc X W c) (hb X W c)).imp fun D σ H q => by
    obtain ⟨G, ι, e, h, rs, rh, p⟩ := q
    refine ⟨fun m σ H => ∃ G2 ι2 e2 h2, RS g.w g.K g.ca G2 ι2 σ e2 ∧ RH g.w g.K g.ca G2 ι2 H h2 ∧ PostS g W G2 ι2 (whileN mc b m e2 h2) D, ⟨n, G, ι, e, h, rs, rh, p⟩, ?_⟩
    rintro m σ H ⟨G2, ι2, e2, h2, rs2, rh2, p2⟩
    cases m with
    | zero => exact p2.elim
    | succ m =>
      refine tT_s (f := fun v h1 => match v with
        | true => (match b e2 h1 with
          | .nx e3 h3 => whileN mc b m e3 h3
          | .ct e3 h3 => whileN mc b m e3 h3
          | .bk e3 h3 => .nx e3 h3
          | r => r)
        | false => .nx e2 h1) rs2 rh2 ?_ p2 fun v h' G' ι' H' gr rh' rs' p' => ?_
      · simp only [whileN]
        cases mc e2 h2 with
        | ok v h1 => cases v <;> rfl
        | exc _ _ => rfl
        | bad => rfl
      · cases v with
        | false => exact p' G' ι' H' σ Gr.refl rh' rs'
        | true =>
          refine ⟨fun σ' H' => ∃ G2 ι2 e2 h2, RS g.w g.K g.ca G2 ι2 σ' e2 ∧ RH g.w g.K g.ca G2 ι2 H' h2 ∧ PostS g W G2 ι2 (whileN mc b m e2 h2) D, fun σ' H' z => ⟨m, Nat.lt_succ_self _, z⟩, G', ι', e2, h', rs', rh', ?_⟩
          simp only at p'
          cases eb : b e2 h' with
          | nx e4 h4 => rw [eb] at p'; exact fun G3 ι3 H3 σ3 gr3 rh3 rs3 => ⟨G3, ι3, e4, h4, rs3, rh3, PostS.grow gr3 p'⟩
          | ct e4 h4 => rw [eb] at p'; exact fun G3 ι3 H3 σ3 gr3 rh3 rs3 => ⟨G3, ι3, e4, h4, rs3, rh3, PostS.grow gr3 p'⟩
          | bk e4 h4 => rw [eb] at p'; exact p'
          | rt v h4 => rw [eb] at p'; exact p'
          | ex x e4 h4 => rw [eb] at p'; exact p'
          | bad => rw [eb] at p'; exact p'
theorem ss_break {pos : Pos} : SS g N sc k (.Break pos) (fun e h => .bk e h) := fun X W c => ps_break.imp fun D σ H q => by
  obtain ⟨G, ι, e, h, rs, rh, p⟩ := q
  exact p G ι H σ Gr.refl rh rs
theorem ss_continue {pos : Pos} : SS g N sc k (.Continue pos) (fun e h => .ct e h) := fun X W c => ps_continue.imp fun D σ H q => by
  obtain ⟨G, ι, e, h, rs, rh, p⟩ := q
  exact p G ι H σ Gr.refl rh rs

/-! ### what is walked -/
/-- a list that is not changed any more, a tuple -/
def iSeq (a : ME) : MI := fun e h => (a e h).bind fun x h1 => match x with
  | .tup xs => .ok xs h1
  | .lst xs => .ok xs h1
  | _ => .bad
theorem it_lst {a : Addr} {xs : List V} {ds : List D} (hq : G.f a = some (.lst xs)) (rl : RepL g.w g.K g.ca G ι ds xs) : ItOk g (Itl g.K a) G ι ds := fun G1 ι1 H1 h1 grs grp rh => by
  have hS : SqL g.K H1 a xs := SqL.of (rh.le _ _ (grs _ _ hq))
  have r1 := rl.mono grs grp
  refine ⟨⟨xs, hS, Nat.le_of_eq r1.length.symm⟩, fun i d hd => ?_⟩
  obtain ⟨v, hv, rv⟩ := r1.get' hd
  refine ⟨⟨xs, v, hS, hv⟩, fun x H2 ⟨e, y⟩ => ?_⟩
  subst e
  have e2 := y xs hS
  rw [hv] at e2; cases e2
  exact ⟨G1, Gr.refl, rh, rv⟩
theorem it_tup {a : Addr} {xs : List V} {ds : List D} (hq : TupAt g.K G.f a xs) (rl : RepL g.w g.K g.ca G ι ds xs) : ItOk g (Itt g.K a) G ι ds := fun G1 ι1 H1 h1 grs grp rh => by
  have hS : SqT g.K H1 a xs := same_sqT rh.le (hq.mono grs)
  have r1 := rl.mono grs grp
  refine ⟨⟨xs, hS, Nat.le_of_eq r1.length.symm⟩, fun i d hd => ?_⟩
  obtain ⟨v, hv, rv⟩ := r1.get' hd
  refine ⟨⟨xs, v, hS, hv⟩, fun x H2 ⟨e, y⟩ => ?_⟩
  subst e
  have e2 := y xs hS
  rw [hv] at e2; cases e2
  exact ⟨G1, Gr.refl, rh, rv⟩
/-- pi_list, pi_tup at once -/
def iLT (K : PySem.W.Frag) (tl : TE) : TI := fun σ H R => tl σ H fun x H1 => (∃ a, x = .ref a ∧ (∃ xs, SqL K H1 a xs) ∧ R (Itl K a) H1) ∨ (∃ a, x = .ref a ∧ (∃ xs, SqT K H1 a xs) ∧ R (Itt K a) H1)
theorem pi_lt {X : Cx} {tg l : Expr} {tl : TE} (hl : PE X l tl) : PI X tg l (iLT X.K tl) := by
  refine ⟨fun pins s σ H R I h => ?_⟩
  refine thn (hl.run pins s σ H _ I h) fun v s1 ⟨x, H1, I1, r1, q1⟩ => ?_
  rcases q1 with ⟨a, e, ⟨xs, hq⟩, q⟩ | ⟨a, e, ⟨xs, hq⟩, q⟩
  · subst e
    cases r1
    obtain ⟨its, rv, p, hz⟩ := I1.list hq
    refine wpAny_pyIter_list p.isList ?_
    refine ⟨s1.heap.objs.size, [s1.heap.objs.size], _, _, H1, rfl, I1.kept (t' := s1.toks) fun b o e => Heap.get?_push_of_some _ e, turn_list a _, ⟨_, Heap.get?_push_size _ rfl, rfl, rfl⟩, fun b hb => ?_, q⟩
    have e : b = s1.heap.objs.size := by simpa using hb
    subst e
    exact I1.fpOk (Nat.le_refl _) (I1.hok.fresh (Nat.le_refl _))
  · subst e
    cases r1
    obtain ⟨its, rv, p, hz⟩ := I1.tuple hq
    refine wpAny_pyIter_tuple (show s1.heap.IsTuple a its.toArray from p) ?_
    refine ⟨s1.heap.objs.size, [s1.heap.objs.size], _, _, H1, rfl, I1.kept (t' := s1.toks) fun b o e => Heap.get?_push_of_some _ e, turn_tuple a _, ⟨_, Heap.get?_push_size _ rfl, rfl, rfl⟩, fun b hb => ?_, q⟩
    have e : b = s1.heap.objs.size := by simpa using hb
    subst e
    exact I1.fpOk (Nat.le_refl _) (I1.hok.fresh (Nat.le_refl _))
theorem si_seq {tg l : Expr} {a : ME} (ha : SE g N sc k l a) : SI g N sc k tg l (iSeq a) := fun X W c => (pi_lt (ha X W c)).imp fun σ H R q => by
  obtain ⟨G, ι, e, h, rs, rh, p⟩ := q
  refine tE_go rs rh p fun v h1 G1 ι1 H1 x _ gr rh1 rs1 rx p1 => ?_
  rw [c.eK]
  cases rx with
  | lst q r => exact .inl ⟨_, rfl, ⟨_, SqL.of (rh1.le _ _ q)⟩, p1 G1 ι1 H1 _ Gr.refl rh1 (it_lst q r)⟩
  | tup q r => exact .inr ⟨_, rfl, ⟨_, same_sqT rh1.le q⟩, p1 G1 ι1 H1 _ Gr.refl rh1 (it_tup q r)⟩
  | _ => exact p1.elim
/-- range -/
def rngD (lo : Int) (n : Nat) : List D := (List.range n).map fun i => D.int (lo + (i : Nat))
theorem it_rng {lo : Int} {n : Nat} : ItOk g (Itr lo n) G ι (rngD lo n) := fun G1 ι1 H1 h1 _ _ rh => by
  refine ⟨by show n ≤ (rngD lo n).length; simp [rngD], fun i d hd => ?_⟩
  unfold rngD at hd
  rw [List.getElem?_map] at hd
  have hi : i < n := by
    by_cases hi : i < n
    · exact hi
    · rw [List.getElem?_eq_none (by simp; omega)] at hd; cases hd
  rw [List.getElem?_eq_getElem (by simpa using hi)] at hd
  simp at hd
  subst hd
  exact ⟨hi, fun x H2 ⟨e1, e2⟩ => by subst e1 e2; exact ⟨G1, Gr.refl, rh, .int _⟩⟩
def B62 : Int := 4611686018427387904
def iRange1 (a : ME) : MI := fun e h => (a e h).bind fun x h1 => match x with
  | .int j => if decide (-B62 ≤ j) && decide (j < B62) then .ok (rngD 0 j.toNat) h1 else .bad
  | _ => .bad
def iRange2 (a : MA) : MI := fun e h => (a e h).bind fun x h1 => match x with
  | [.int i, .int j] => if decide (-B62 ≤ i) && decide (i < B62) && decide (-B62 ≤ j) && decide (j < B62) then .ok (rngD i (j - i).toNat) h1 else .bad
  | _ => .bad
theorem si_range1 {tg a : Expr} {ma : ME} {p pos : Pos} (ha : SE g N sc k a ma) (hm : g.mg "range" = none) (hs : ∀ env, starEach [a] env = [(false, eval a env)] := by intro _; rfl) (hg : sc.names.lookup ("range" : Str) = some .globalImplicit := by rfl) : SI g N sc k tg (.Call (.Name "range" p) [a] [] pos) (iRange1 ma) := fun X W c =>
  (pi_range1 (c.gl hg) (by rw [c.em]; exact hm) (pa_cons (ha X W c) pa_nil (hs _)) (hs _)).imp fun σ H R q => by
    obtain ⟨G, ι, e, h, rs, rh, p⟩ := q
    refine tE_go rs rh p fun v h1 G1 ι1 H1 x _ gr rh1 rs1 rx p1 => ?_
    cases rx <;> first
      | exact p1.elim
      | (rename_i j _
         simp only at p1
         split at p1
         · rename_i hb
           simp only [Bool.and_eq_true, decide_eq_true_eq] at hb
           unfold B62 at hb
           exact ⟨j, rfl, by have := hb.1; omega, by have := hb.2; omega, p1 G1 ι1 H1 _ Gr.refl rh1 it_rng⟩
         · exact p1.elim)
theorem si_range2 {tg a b : Expr} {ma : MA} {p pos : Pos} (ha : SA g N sc k [a, b] ma) (hm : g.mg "range" = none) (hs : ∀ env, starEach [a, b] env = [(false, eval a env), (false, eval b env)] := by intro _; rfl) (hs2 : ∀ env, starEach [b] env = [(false, eval b env)] := by intro _; rfl) (hg : sc.names.lookup ("range" : Str) = some .globalImplicit := by rfl) : SI g N sc k tg (.Call (.Name "range" p) [a, b] [] pos) (iRange2 ma) := fun X W c =>
  (pi_range2 (c.gl hg) (by rw [c.em]; exact hm) (ha X W c) (hs _) (hs2 _)).imp fun σ H R q => by
    obtain ⟨G, ι, e, h, rs, rh, p⟩ := q
    refine tA_go rs rh p fun v h1 G1 ι1 H1 x _ gr rh1 rs1 rx p1 => ?_
    cases rx with
    | nil => exact p1.elim
    | cons r1 t1 =>
      cases t1 with
      | nil => cases r1 <;> exact p1.elim
      | cons r2 t2 =>
        cases t2 with
        | cons _ _ => cases r1 <;> cases r2 <;> exact p1.elim
        | nil =>
          cases r1 with
          | int i =>
            cases r2 with
            | int j =>
              simp only at p1
              split at p1
              · rename_i hb
                simp only [Bool.and_eq_true, decide_eq_true_eq] at hb
                unfold B62 at hb
                exact ⟨i, j, rfl, ⟨by omega, by omega, by omega, by omega⟩, p1 G1 ι1 H1 _ Gr.refl rh1 it_rng⟩
              · exact p1.elim
            | _ => exact p1.elim
          | _ => cases r2 <;> exact p1.elim
end
end MP
end L2

set_option Elab.async false
set_option linter.all false
set_option maxRecDepth 100000
set_option maxHeartbeats 2000000
namespace L2
namespace MP
open PySem PySem.Spec PyProof.Rows
section
variable {g : GX} {N : List Str} {sc : SC} {k : Nat} {W : XW} {σ : St} {G : GP} {ι : List Addr} {H : Hp} {h : Hm} {ev : Ev} {w : World} {K : PySem.W.Frag} {ca : Nat → Option Addr}

/-! ### comprehensions -/
abbrev bsc (scope : Scope) (sc : SC) : SC := ⟨relS scope sc.scope, fun x => scope.names.lookup x == some .cell⟩
theorem At.blk {X : Cx} {W : XW} (c : At g N sc k X W) {scope : Scope} (s : Shared) (H : Hp) (C : Addr) (cl : List (Str × Addr)) (fp : List Addr) : At g N (bsc scope sc) k (X.blk s H scope (compEnvC scope cl C X.env) fp) (fun _ _ _ => False) where
  eP := c.eP
  ew := c.ew
  eK := c.eK
  em := c.em
  eb := c.eb
  eN := c.eN
  es := by show relS scope X.env.scope = _; rw [c.es]
  nd := c.nd
  calm := c.calm
  room := c.room
  gd := c.gd
  tk := L2.takes0.imp fun _ _ _ _ z => by obtain ⟨_, _, _, _, _, z⟩ := z; exact z.elim
  po := PassesOwn.never
  fn := fun x h => h
/-- the tests of a comprehension -/
def STs (g : GX) (N : List Str) (sc : SC) (k : Nat) (es : List Expr) (m : MT) : Prop := ∀ X W, At g N sc k X W → PTs X es (tT g W m)
theorem _root_.L2.PTs.imp {X : Cx} {e : List Expr} {t t' : TT} (h : PTs X e t) (w : ∀ σ H Q, t' σ H Q → t σ H Q) : PTs X e t' := ⟨fun pins s σ H Q I q => h.run pins s σ H Q I (w _ _ _ q)⟩
def tYesM : MT := fun _ h => .ok true h
theorem sts_nil : STs g N sc k [] tYesM := fun X W c => pts_nil.imp fun σ H Q q => by
  obtain ⟨G, ι, e, h, rs, rh, p⟩ := q
  exact p.here (x := true) rh rfl
theorem sts_one {c : Expr} {m : MT} (h : ST g N sc k c m) : STs g N sc k [c] m := fun X W cc => pts_one (h X W cc)
/-- nothing is raised -/
def nox {α : Type} : Res α → Res α
  | .ok v h => .ok v h
  | _ => .bad
def compL (t : Tg) (cond : MT) (elt : ME) (e0 : Ev) : List D → Hm → Res (List D)
  | [], h => .ok [] h
  | d :: ds, h => match t d e0 with
    | none => .bad
    | some e1 => (nox (cond e1 h)).bind fun b h1 => if b = true then (nox (elt e1 h1)).bind fun v h2 => (compL t cond elt e0 ds h2).bind fun vs h3 => .ok (v :: vs) h3 else compL t cond elt e0 ds h1
def mComp (m : MI) (t : Tg) (cond : MT) (elt : ME) (vs : List Nat) : ME := fun e h => (m e h).bind fun ds h1 => (compL t cond elt (ewipe e vs) ds h1).bind fLst
/-- .. whose list may be changed -/
def mCompN (m : MI) (t : Tg) (cond : MT) (elt : ME) (vs : List Nat) : ME := fun e h => (m e h).bind fun ds h1 => (compL t cond elt (ewipe e vs) ds h1).bind fNewL
theorem Res.bind_assoc {α β γ : Type} (r : Res α) (f : α → Hm → Res β) (f' : β → Hm → Res γ) : (r.bind f).bind f' = r.bind fun v h => (f v h).bind f' := by cases r <;> rfl
theorem compL_noexc {t : Tg} {cond : MT} {elt : ME} {e0 : Ev} : ∀ {ds : List D} {h : Hm} {c : Nat} {h' : Hm}, compL t cond elt e0 ds h = .exc c h' → False
  | [], h, c, h', e => by cases e
  | d :: ds, h, c, h', e => by
    simp only [compL] at e
    split at e
    · cases e
    · rename_i e1 _
      cases hc : cond e1 h with
      | ok b h1 =>
        simp only [hc, nox, Res.bind] at e
        cases b with
        | false => exact compL_noexc (by simpa using e)
        | true =>
          simp only [if_true] at e
          cases he : elt e1 h1 with
          | ok v h2 =>
            simp only [he] at e
            cases hr : compL t cond elt e0 ds h2 with
            | ok vs h3 => rw [hr] at e; cases e
            | exc c2 h3 => exact compL_noexc hr
            | bad => rw [hr] at e; cases e
          | exc _ _ => simp only [he] at e; cases e
          | bad => simp only [he] at e; cases e
      | exc _ _ => simp only [hc, nox, Res.bind] at e; cases e
      | bad => simp only [hc, nox, Res.bind] at e; cases e
theorem PostR.grow {α β : Type} {R : GP → List Addr → α → β → Prop} {G' : GP} {ι' : List Addr} {r : Res α} {Q : β → Hp → Prop} (gr : Gr G ι G' ι') (p : PostR g W σ R G ι r Q) : PostR g W σ R G' ι' r Q := by
  cases r with
  | ok v h2 => exact fun G2 ι2 H2 x2 gr2 rh2 rx2 => p G2 ι2 H2 x2 (gr.trans gr2) rh2 rx2
  | exc c h2 => exact fun G2 ι2 H2 gr2 rh2 => p G2 ι2 H2 (gr.trans gr2) rh2
  | bad => exact p
/-- the loop of a comprehension -/
theorem comp_loop {t : Tg} {cond : MT} {elt : ME} {vs : List Nat} {J : It} {gt : TG} {tt : TT} {te : TE} {fin : List D → Hm → Res D} {G1 : GP} {ι1 : List Addr} {h1 : Hm} {H1 : Hp} {ds : List D} {Da : Addr} {Q : VK} {e0 : Ev}
    (hgt : ∀ v σ H Q, tG g vs t v σ H Q → gt v σ H Q) (htt : ∀ σ H Q, tT g (fun _ _ _ => False) cond σ H Q → tt σ H Q) (hte : ∀ σ H Q, tE g (fun _ _ _ => False) elt σ H Q → te σ H Q)
    (ok : ItOk g J G1 ι1 ds) (rh1 : RH g.w g.K g.ca G1 ι1 H1 h1) (rs0 : RS g.w g.K g.ca G1 ι1 (wipe σ vs) e0) (hD : H1 Da = none)
    (hfin : ∀ accd h2 f ι2 H2 acc, Same G1.f f → ι1 <+: ι2 → RH g.w g.K g.ca ⟨f, upd G1.p Da (.lst acc)⟩ ι2 H2 h2 → RepL g.w g.K g.ca ⟨f, G1.p⟩ ι2 accd acc → PostR g W σ (RpE g) ⟨f, G1.p⟩ ι2 (fin accd h2) Q → Q (.ref Da) H2)
    (hlen : ∀ (accd : List D) h2, fin accd h2 ≠ .bad → accd.length ≤ LIM)
    (p : PostR g W σ (RpE g) G1 ι1 ((compL t cond elt e0 ds h1).bind fin) Q) :
    ∃ W' : Nat → Nat → Hp → Prop, (∃ m, W' 0 m (upd H1 Da (.lst []))) ∧ ∀ i m H, W' i m H →
      (J.stop i H ∧ Q (.ref Da) H) ∨ (J.go i H ∧ ∃ Nx : Hp → Prop, (∀ H', Nx H' → ∃ m', m' < m ∧ W' (i + 1) m' H') ∧ ∀ x H', J.yld i H x H' → gt x (wipe σ vs) H' fun σ2 H2 => wipe σ2 vs = wipe σ vs ∧ tt σ2 H2 fun b H3 =>
        if b = true then te σ2 H3 fun y H4 => ∃ acc, H4 Da = some (.lst acc) ∧ acc.length < sizeLine ∧ Nx (upd H4 Da (.lst (acc ++ [y]))) else Nx H3) := by
  have hpD : G1.p Da = none := rh1.pin.free hD
  refine ⟨fun i m H => m = ds.length - i ∧ i ≤ ds.length ∧ ∃ f ι2 h2 accd acc, Same G1.f f ∧ ι1 <+: ι2 ∧ RH g.w g.K g.ca ⟨f, upd G1.p Da (.lst acc)⟩ ι2 H h2 ∧ RepL g.w g.K g.ca ⟨f, G1.p⟩ ι2 accd acc ∧
      PostR g W σ (RpE g) ⟨f, G1.p⟩ ι2 ((compL t cond elt e0 (ds.drop i) h2).bind fun vs h3 => fin (accd ++ vs) h3) Q,
    ⟨ds.length, by simp, Nat.zero_le _, G1.f, ι1, h1, [], [], Same.refl _, List.prefix_refl _, rh1.hide hD, .nil, by simpa using p⟩, ?_⟩
  rintro i m H ⟨rfl, hi, f, ι2, h2, accd, acc, sf, pι, rh2, racc, p2⟩
  obtain ⟨stop, turn⟩ := ok ⟨f, upd G1.p Da (.lst acc)⟩ ι2 H h2 sf pι rh2
  by_cases hlt : i < ds.length
  · have hd : ds[i]? = some ds[i] := by simp [hlt]
    obtain ⟨go, yl⟩ := turn i _ hd
    have hdrop : ds.drop i = ds[i] :: ds.drop (i + 1) := List.drop_eq_getElem_cons hlt
    rw [hdrop] at p2
    simp only [compL] at p2
    refine .inr ⟨go, fun H' => ∃ f ι2 h2 accd acc, Same G1.f f ∧ ι1 <+: ι2 ∧ RH g.w g.K g.ca ⟨f, upd G1.p Da (.lst acc)⟩ ι2 H' h2 ∧ RepL g.w g.K g.ca ⟨f, G1.p⟩ ι2 accd acc ∧
      PostR g W σ (RpE g) ⟨f, G1.p⟩ ι2 ((compL t cond elt e0 (ds.drop (i + 1)) h2).bind fun vs h3 => fin (accd ++ vs) h3) Q, fun H' z => ⟨ds.length - (i + 1), by omega, rfl, hlt, z⟩, fun x H' y => ?_⟩
    obtain ⟨G3, gr3, rh3, rx⟩ := yl x H' y
    -- the state without what is hidden
    have grn : ∀ {Ga : GP} {ιa : List Addr}, Gr ⟨f, upd G1.p Da (.lst acc)⟩ ι2 Ga ιa → Gr ⟨f, G1.p⟩ ι2 ⟨Ga.f, G1.p⟩ ιa := fun gr => ⟨gr.s, gr.p, rfl⟩
    cases et : t ds[i] e0 with
    | none => rw [et] at p2; exact p2.elim
    | some e1 =>
      rw [et] at p2
      simp only [Res.bind_assoc] at p2
      refine hgt _ _ _ _ ⟨G3, ι2, e0, h2, ds[i], (rs0.mono (sf.trans gr3.s) (pι.trans gr3.p)), rh3, rx, e1, et, fun σ' rs' off => ⟨(wipe_off off).trans (wipe_off wipe_is), ?_⟩⟩
      refine htt _ _ _ ⟨G3, ι2, e1, h2, rs', rh3, ?_⟩
      cases hc : cond e1 h2 with
      | exc _ _ => rw [hc] at p2; exact p2.elim
      | bad => rw [hc] at p2; exact p2.elim
      | ok b h3 =>
        rw [hc] at p2
        intro G4 ι4 H4 b' gr4 rh4 eb
        subst eb
        have q4 : G4.p = upd G1.p Da (.lst acc) := gr4.q.trans gr3.q
        have g4 : Gr ⟨f, G1.p⟩ ι2 ⟨G4.f, G1.p⟩ ι4 := grn (gr3.trans gr4)
        cases b with
        | false =>
          show ∃ f ι2 h2 accd acc, _
          refine ⟨G4.f, ι4, h3, accd, acc, sf.trans (gr3.trans gr4).s, pι.trans (gr3.trans gr4).p, ?_, racc.mono g4.s g4.p, PostR.grow g4 p2⟩
          have e4 : (⟨G4.f, upd G1.p Da (.lst acc)⟩ : GP) = G4 := by rw [← q4]
          rw [e4]; exact rh4
        | true =>
          refine hte _ _ _ ⟨G4, ι4, e1, h3, rs'.mono gr4.s gr4.p, rh4, ?_⟩
          cases he : elt e1 h3 with
          | exc _ _ => simp only [nox, Res.bind, if_true, he] at p2; exact p2.elim
          | bad => simp only [nox, Res.bind, if_true, he] at p2; exact p2.elim
          | ok v h4 =>
            have p3 : PostR g W σ (RpE g) ⟨f, G1.p⟩ ι2 ((compL t cond elt e0 (ds.drop (i + 1)) h4).bind fun vs h5 => fin (accd ++ v :: vs) h5) Q := by
              simp only [nox, Res.bind, if_true, he] at p2
              cases hr : compL t cond elt e0 (ds.drop (i + 1)) h4 with
              | ok vs h5 => simp only [hr] at p2; exact p2
              | exc _ _ => exact (compL_noexc hr).elim
              | bad => simp only [hr] at p2; exact p2.elim
            intro G5 ι5 H5 y gr5 rh5 ry
            have q5 : G5.p = upd G1.p Da (.lst acc) := gr5.q.trans q4
            have g5 : Gr ⟨f, G1.p⟩ ι2 ⟨G5.f, G1.p⟩ ι5 := grn ((gr3.trans gr4).trans gr5)
            have e5 : (⟨G5.f, upd G1.p Da (.lst acc)⟩ : GP) = G5 := by rw [← q5]
            have hDa : H5 Da = some (.lst acc) := rh5.pin Da _ (by rw [q5]; exact upd_same)
            refine ⟨acc, hDa, ?_, ?_⟩
            · rw [← racc.length, lim_eq]
              cases hr : compL t cond elt e0 (ds.drop (i + 1)) h4 with
              | ok vs h5 =>
                rw [hr] at p3
                have := hlen (accd ++ v :: vs) h5 (fun z => by
                  have p3' : PostR g W σ (RpE g) ⟨f, G1.p⟩ ι2 (fin (accd ++ v :: vs) h5) Q := p3
                  rw [z] at p3'; exact p3')
                simp only [List.length_append, List.length_cons] at this
                omega
              | exc _ _ => exact (compL_noexc hr).elim
              | bad => rw [hr] at p3; exact p3.elim
            · have ry' : Rep g.w g.K g.ca ⟨G5.f, G1.p⟩ ι5 v y := ry.mono (show Same G5.f (⟨G5.f, G1.p⟩ : GP).f from Same.refl _) (List.prefix_refl _)
              refine ⟨G5.f, ι5, h4, accd ++ [v], acc ++ [y], sf.trans ((gr3.trans gr4).trans gr5).s, pι.trans ((gr3.trans gr4).trans gr5).p, ?_, (racc.mono g5.s g5.p).app (.cons ry' .nil), ?_⟩
              · exact RH.rehide (by rw [e5]; exact rh5)
              · have p4 := PostR.grow g5 p3
                simpa only [List.append_assoc, List.singleton_append] using p4
  · have e0' : i = ds.length := by omega
    subst e0'
    rw [List.drop_length] at p2
    refine .inl ⟨stop, hfin accd h2 f ι2 H acc sf pι rh2 racc ?_⟩
    simpa [compL, Res.bind] using p2
theorem fLst_len (accd : List D) (h2 : Hm) (e : fLst accd h2 ≠ .bad) : accd.length ≤ LIM := by
  unfold fLst at e
  split at e
  · assumption
  · exact absurd rfl e
theorem fNewL_len (accd : List D) (h2 : Hm) (e : fNewL accd h2 ≠ .bad) : accd.length ≤ LIM := by
  unfold fNewL at e
  split at e
  · assumption
  · exact absurd rfl e
theorem comp_of {own : List (Str × Nat)} {mi : MI} {t : Tg} {cond : MT} {m : ME} {fin : List D → Hm → Res D} {vs : List Nat} (hv : own.map (·.2) = vs)
    (hlen : ∀ (accd : List D) h2, fin accd h2 ≠ .bad → accd.length ≤ LIM)
    (hfin : ∀ W σ accd h2 f p0 ι2 H2 acc (a : Addr) Q, p0 a = none → RH g.w g.K g.ca ⟨f, upd p0 a (.lst acc)⟩ ι2 H2 h2 → RepL g.w g.K g.ca ⟨f, p0⟩ ι2 accd acc → PostR g W σ (RpE g) ⟨f, p0⟩ ι2 (fin accd h2) Q → Q (.ref a) H2)
    {σ : St} {H : Hp} {Q : VK} (q : tE g W (fun e h => (mi e h).bind fun ds h1 => (compL t cond m (ewipe e vs) ds h1).bind fin) σ H Q) :
    tLc (tI g W mi) (tG g vs t) (tT g (fun _ _ _ => False) cond) (tE g (fun _ _ _ => False) m) (own.map (·.2)) σ H Q := by
  obtain ⟨G, ι, e, h, rs, rh, p⟩ := q
  refine ⟨G, ι, e, h, rs, rh, p.bind fun ds h1 _ G1 ι1 H1 J gr rh1 ok p1 => ?_⟩
  intro Da hD
  rw [hv]
  exact comp_loop (fin := fin) (fun _ _ _ _ z => z) (fun _ _ _ z => z) (fun _ _ _ z => z) ok rh1 ((rs.mono gr.s gr.p).wipe vs) hD
    (fun accd h2 f ι2 H2 acc sf pι rh2 racc p2 => hfin W σ accd h2 f G1.p ι2 H2 acc Da Q (rh1.pin.free hD) rh2 racc p2) hlen p1
theorem fin_lst (W : XW) (σ : St) (accd : List D) (h2 : Hm) (f p0 : Hp) (ι2 : List Addr) (H2 : Hp) (acc : List V) (a : Addr) (Q : VK) (hp : p0 a = none) (rh : RH g.w g.K g.ca ⟨f, upd p0 a (.lst acc)⟩ ι2 H2 h2) (r : RepL g.w g.K g.ca ⟨f, p0⟩ ι2 accd acc)
    (p : PostR g W σ (RpE g) ⟨f, p0⟩ ι2 (fLst accd h2) Q) : Q (.ref a) H2 := by
  unfold fLst at p
  split at p
  · obtain ⟨s, rh'⟩ := rh.unhide hp
    exact p ⟨upd f a (.lst acc), p0⟩ ι2 H2 _ ⟨s, List.prefix_refl _, rfl⟩ rh' (.lst (show upd f a (.lst acc) a = _ from upd_same) (r.mono s (List.prefix_refl _)))
  · exact p.elim
/-- from hidden to a place that may change -/
theorem RH.toLoc {f p0 : Hp} {a : Addr} {o : HO} {mo : MO} (hp : p0 a = none) (r : RH w K ca ⟨f, upd p0 a o⟩ ι H h) (ro : RepO w K ca ⟨f, p0⟩ ι a mo o) : RH w K ca ⟨f, p0⟩ (ι ++ [a]) H (h ++ [some mo]) := by
  have hf : f a = none := r.dis a o (show upd p0 a o a = some o from upd_same)
  have hH : H a = some o := r.pin a _ (show upd p0 a o a = some _ from upd_same)
  have pre : ι <+: ι ++ [a] := List.prefix_append _ _
  have old : ∀ {l : Nat} {mo' : MO}, h.get l = some mo' → ∃ b u, ι[l]? = some b ∧ b ≠ a ∧ (f b = none ∧ p0 b = none) ∧ H b = some u ∧ RepO w K ca ⟨f, p0⟩ (ι ++ [a]) b mo' u := fun {l mo'} e => by
    obtain ⟨b, u, h1, h2, h3, h4⟩ := r.obj l mo' e
    have h2p : upd p0 a o b = none := h2.2
    have hb : b ≠ a := fun z => by
      subst z
      rw [upd_same] at h2p; cases h2p
    rw [upd_ne hb] at h2p
    exact ⟨b, u, h1, hb, ⟨h2.1, h2p⟩, h3, h4.mono (show Same f f from Same.refl _) pre⟩
  refine ⟨r.le, fun b u e => ?_, fun b u e => ?_, by simp [r.len], fun l mo' e => ?_, fun l l' o1 o2 b e1 e2 i1 i2 => ?_⟩
  · have e : p0 b = some u := e
    exact r.pin b u (by show upd p0 a o b = some u; rw [upd_ne (ne_of_none e hp)]; exact e)
  · have e : p0 b = some u := e
    exact r.dis b u (by show upd p0 a o b = some u; rw [upd_ne (ne_of_none e hp)]; exact e)
  · rw [Hm.get_app] at e
    split at e
    · rename_i hl
      cases e
      exact ⟨a, o, by rw [hl, ← r.len]; simp, ⟨hf, hp⟩, hH, ro.mono (show Same f f from Same.refl _) pre⟩
    · obtain ⟨b, u, h1, hb, h2, h3, h4⟩ := old e
      exact ⟨b, u, pre_get pre h1, h2, h3, h4⟩
  · have nw : ∀ {b : Addr}, (ι ++ [a])[h.length]? = some b → b = a := fun {b} i => by
      rw [← r.len] at i
      simp at i
      exact i.symm
    have od : ∀ {l : Nat} {o : MO} {b : Addr}, h.get l = some o → (ι ++ [a])[l]? = some b → ι[l]? = some b ∧ b ≠ a := fun {l o b} e i => by
      obtain ⟨b', u, h1, hb, _⟩ := old e
      rw [pre_get pre h1] at i
      cases i
      exact ⟨h1, hb⟩
    rw [Hm.get_app] at e1 e2
    split at e1
    · rename_i hl
      split at e2
      · rename_i hl'
        rw [hl, hl']
      · rw [hl] at i1
        exact absurd (nw i1) (od e2 i2).2
    · split at e2
      · rename_i hl'
        rw [hl'] at i2
        exact absurd (nw i2) (od e1 i1).2
      · exact r.inj l l' o1 o2 b e1 e2 (od e1 i1).1 (od e2 i2).1
theorem fin_new (W : XW) (σ : St) (accd : List D) (h2 : Hm) (f p0 : Hp) (ι2 : List Addr) (H2 : Hp) (acc : List V) (a : Addr) (Q : VK) (hp : p0 a = none) (rh : RH g.w g.K g.ca ⟨f, upd p0 a (.lst acc)⟩ ι2 H2 h2) (r : RepL g.w g.K g.ca ⟨f, p0⟩ ι2 accd acc)
    (p : PostR g W σ (RpE g) ⟨f, p0⟩ ι2 (fNewL accd h2) Q) : Q (.ref a) H2 := by
  unfold fNewL at p
  split at p
  · exact p ⟨f, p0⟩ (ι2 ++ [a]) H2 _ ⟨Same.refl _, List.prefix_append _ _, rfl⟩ (rh.toLoc hp (.lst r)) (.loc (by rw [← rh.len]; simp))
  · exact p.elim
section
variable {tg iter elt : Expr} {ifs : List Expr} {scope : Scope} {own : List (Str × Nat)} {mi : MI} {t : Tg} {cond : MT} {m : ME} {vs : List Nat} {pos : Pos}
theorem se_comp (own : List (Str × Nat)) (hi : SI g N sc k tg iter mi) (hg : SG g N (bsc scope sc) k tg vs t) (ht : STs g N (bsc scope sc) k ifs cond) (he : SE g N (bsc scope sc) k elt m) (ok : blkC N sc.scope scope own = true := by decide +kernel) (hv : own.map (·.2) = vs := by rfl)
    (hs : ∀ env x, foldedSetIterable iter env x = pure x := by intro _ _; rfl) : SE g N sc k (.ListComp elt [⟨tg, iter, ifs, 0⟩] scope pos) (mComp mi t cond m vs) := fun X W c =>
  (pe_lc (own := own) c.calm c.nd (hi X W c) (by rw [c.eN, c.es]; exact blkOk_by ok) (fun s H C cl fp => hg _ _ (c.blk s H C cl fp)) (fun s H C cl fp => ht _ _ (c.blk s H C cl fp)) (fun s H C cl fp => he _ _ (c.blk s H C cl fp)) (hs _)).imp fun σ H Q q =>
    comp_of hv fLst_len fin_lst q
theorem se_compN (own : List (Str × Nat)) (hi : SI g N sc k tg iter mi) (hg : SG g N (bsc scope sc) k tg vs t) (ht : STs g N (bsc scope sc) k ifs cond) (he : SE g N (bsc scope sc) k elt m) (ok : blkC N sc.scope scope own = true := by decide +kernel) (hv : own.map (·.2) = vs := by rfl)
    (hs : ∀ env x, foldedSetIterable iter env x = pure x := by intro _ _; rfl) : SE g N sc k (.ListComp elt [⟨tg, iter, ifs, 0⟩] scope pos) (mCompN mi t cond m vs) := fun X W c =>
  (pe_lc (own := own) c.calm c.nd (hi X W c) (by rw [c.eN, c.es]; exact blkOk_by ok) (fun s H C cl fp => hg _ _ (c.blk s H C cl fp)) (fun s H C cl fp => ht _ _ (c.blk s H C cl fp)) (fun s H C cl fp => he _ _ (c.blk s H C cl fp)) (hs _)).imp fun σ H Q q =>
    comp_of hv fNewL_len fin_new q
/-- name = [..] -/
theorem tAsg_of {i : Nat} {t : TE} {m : ME} (ht : ∀ σ H Q, tE g W m σ H Q → t σ H Q) {D : Ends} {σ : St} {H : Hp} (q : tS g W (sSet i m) D σ H) : tAsg t (gName i) D σ H := by
  obtain ⟨G, ι, e, h, rs, rh, p⟩ := q
  exact ht _ _ _ (tE_s (f := fun v h1 => .nx (e.set i (some v)) h1) rs rh rfl p fun v h' G' ι' H' x gr rh' rs' rx p' => p' G' ι' H' _ Gr.refl rh' (rs'.set rx))
theorem ss_comp (i : Nat) {y : Str} {py spos : Pos} (own : List (Str × Nat)) (hi : SI g N sc k tg iter mi) (hg : SG g N (bsc scope sc) k tg vs t) (ht : STs g N (bsc scope sc) k ifs cond) (he : SE g N (bsc scope sc) k elt m) (hsw : ∀ env : Env, env.scope = sc.scope → swapsWith (.ListComp elt [⟨tg, iter, ifs, 0⟩] scope pos) (some (.Name y py)) spos.line env = pure true)
    (hy : N[i]? = some y := by rfl) (hyl : sc.names.lookup y = some .local := by rfl) (ok : blkC N sc.scope scope own = true := by decide +kernel) (hv : own.map (·.2) = vs := by rfl)
    (hs : ∀ env x, foldedSetIterable iter env x = pure x := by intro _ _; rfl) : SS g N sc k (.Assign [.Name y py] (.ListComp elt [⟨tg, iter, ifs, 0⟩] scope pos) spos) (sSet i (mComp mi t cond m vs)) := fun X W c =>
  (ps_setLc (i := i) (own := own) c.calm c.nd (by rw [c.eN]; exact hy) (by rw [c.es]; exact hyl) (hsw _ c.es) (hi X W c) (by rw [c.eN, c.es]; exact blkOk_by ok) (fun s H C cl fp => hg _ _ (c.blk s H C cl fp)) (fun s H C cl fp => ht _ _ (c.blk s H C cl fp)) (fun s H C cl fp => he _ _ (c.blk s H C cl fp)) (hs _)).imp fun D σ H q =>
    by refine tAsg_of (m := mComp mi t cond m vs) ?_ q; exact fun _ _ _ z => comp_of hv fLst_len fin_lst z
theorem ss_compN (i : Nat) {y : Str} {py spos : Pos} (own : List (Str × Nat)) (hi : SI g N sc k tg iter mi) (hg : SG g N (bsc scope sc) k tg vs t) (ht : STs g N (bsc scope sc) k ifs cond) (he : SE g N (bsc scope sc) k elt m) (hsw : ∀ env : Env, env.scope = sc.scope → swapsWith (.ListComp elt [⟨tg, iter, ifs, 0⟩] scope pos) (some (.Name y py)) spos.line env = pure true)
    (hy : N[i]? = some y := by rfl) (hyl : sc.names.lookup y = some .local := by rfl) (ok : blkC N sc.scope scope own = true := by decide +kernel) (hv : own.map (·.2) = vs := by rfl)
    (hs : ∀ env x, foldedSetIterable iter env x = pure x := by intro _ _; rfl) : SS g N sc k (.Assign [.Name y py] (.ListComp elt [⟨tg, iter, ifs, 0⟩] scope pos) spos) (sSet i (mCompN mi t cond m vs)) := fun X W c =>
  (ps_setLc (i := i) (own := own) c.calm c.nd (by rw [c.eN]; exact hy) (by rw [c.es]; exact hyl) (hsw _ c.es) (hi X W c) (by rw [c.eN, c.es]; exact blkOk_by ok) (fun s H C cl fp => hg _ _ (c.blk s H C cl fp)) (fun s H C cl fp => ht _ _ (c.blk s H C cl fp)) (fun s H C cl fp => he _ _ (c.blk s H C cl fp)) (hs _)).imp fun D σ H q =>
    by refine tAsg_of (m := mCompN mi t cond m vs) ?_ q; exact fun _ _ _ z => comp_of hv fNewL_len fin_new z
end
end
end MP
end L2

set_option Elab.async false
set_option linter.all false
set_option maxRecDepth 100000
set_option maxHeartbeats 2000000
namespace L2
namespace MP
open PySem PySem.Spec PyProof.Rows
section
variable {g : GX} {N : List Str} {sc : SC} {k : Nat} {W : XW} {σ : St} {G : GP} {ι : List Addr} {H : Hp} {h : Hm} {ev : Ev} {w : World} {K : PySem.W.Frag} {ca : Nat → Option Addr}

/-! ### what a def is worth -/
abbrev FD := List D → Hm → Res D
def spF (g : GX) (F : FD) (n : Nat) : Sp := fun vs H Q E => vs.length = n ∧ ∃ G ι as h, RepL g.w g.K g.ca G ι as vs ∧ RH g.w g.K g.ca G ι H h ∧ PostR g (fun c _ H' => ∀ C, g.ca c = some C → E (.ref C) none H') [] (RpE g) G ι (F as h) Q
theorem rs_start {vs : List V} {as : List D} (r : RepL w K ca G ι as vs) {N : List Str} : RS w K ca G ι (start N vs) (as.map some ++ List.replicate (N.length - as.length) none) := by
  unfold start
  refine ⟨by simp [r.length], fun i d hd => ?_⟩
  by_cases hi : i < as.length
  · rw [List.getElem?_append_left (by simpa using hi), List.getElem?_map] at hd
    cases e : as[i]? with
    | none => rw [e] at hd; cases hd
    | some x =>
      rw [e] at hd
      simp at hd
      subst hd
      obtain ⟨v, h1, h2⟩ := r.get' e
      exact ⟨v, by rw [List.getElem?_append_left (by rw [List.length_map, ← r.length]; exact hi), List.getElem?_map, h1]; rfl, h2⟩
  · rw [List.getElem?_append_right (by simpa using hi), List.getElem?_replicate] at hd
    split at hd <;> cases hd
/-- a def's promise where nothing is being shown -/
structure FnG (P : Program) (w : World) (K : PySem.W.Frag) (mg : Str → Option Value) (base : Heap) (CX : CXT) (k : Nat) (f : Addr) (fd : FuncData) (ps : List Str) (sp : Sp) : Prop where
  len : ∀ vs H Q E, sp vs H Q E → vs.length = ps.length
  run : ∀ (A : Around) (outer : List Env) (s : Shared) (H : Hp) (args : Args) (us : List Value) (vs : List V) (Q : VK) (E : XK), Room k A → A.guards = some [] → Env0 P w K mg base A outer s H → BindsTo s fd args (ps.zip us) → Vals vs us → sp vs H Q E →
    codeAny (model P w) A (.call (.ref f) args) (CR CX outer P w H s Q E) s
theorem fn_g {CX : CXT} {P : Program} {w : World} {K : PySem.W.Frag} {mg : Str → Option Value} {base : Heap} {k : Nat} {f : Addr} {name qual : Str} {params : Arguments} {body : List Stmt} {scope : Scope} {dV kV doc pm cdv ct oc : Value} {an od : Option Addr}
    {osl : Array (Option Value)} {N ps : List Str} {sp : Sp} (lk : K.lookup f = some ⟨oc, od, .func (PySem.W.fnOf name qual params body scope dV kV doc pm an cdv ct), osl⟩) (hcd : PySem.W.codeIn K cdv qual = true) (S : FnScope N ps scope)
    (len : ∀ vs H Q E, sp vs H Q E → vs.length = ps.length)
    (hbody : ∀ (A : Around) (outer : List Env) (s : Shared) (H : Hp) (vs : List V) (Q : VK) (E : XK), Room k (A.deeper (envOfC qual scope s.heap.objs.size f cdv)) → A.guards = some [] → sp vs H Q E →
      ∃ t, PSs (cxOf CX P w K mg base N qual scope f cdv A outer s H E) body t ∧ t { nx := fun _ H' => Q .non H', rt := Q } (start N vs) H) :
    FnG P w K mg base CX (k + 1) f (PySem.W.fnOf name qual params body scope dV kV doc pm an cdv ct) ps sp := by
  refine ⟨len, fun A outer s H args us vs Q E hr hg e0 hb r hsp => ?_⟩
  have hl := len _ _ _ _ hsp
  have KX : K.In s.heap := e0.mod.kin.keeps fun b o e => (e0.bs b o e).1
  have lim : s.heap.NoLimit := e0.mod.nolimit.keeps fun b o e => (e0.bs b o e).1
  have hkind : ∀ y ∈ ps.zip us, scope.names.lookup y.1 = some .local ∨ (scope.names.lookup y.1 = some .cell ∧ ((cellsFrom (s.heap.objs.size + 1) scope.names []).lookup y.1).isSome = true) := fun ⟨n, v⟩ hy => by
    rcases S.par n (List.of_mem_zip hy).1 with q | q
    · exact .inl q
    · exact .inr ⟨q, PySem.W.cellsFrom_some _ _ _ (.inl q)⟩
  refine codeAny_call_function hr.depth (KX _ _ lk) rfl S.co S.gen rfl (PySem.W.codeRec_of KX hcd) (hb _ _ _ _ ?_)
  refine wpAny_newFunctionEnv_cells S.kind hkind fun env he s1 x => ?_
  subst he
  refine ⟨lim.keeps x.toInCall.keep, codeAny_func ?_⟩
  obtain ⟨t, ht, hq⟩ := hbody A outer s H vs Q E (hr.deeper _) hg hsp
  have I : Inv (cxOf CX P w K mg base N qual scope f cdv A outer s H E) [] (start N vs) H s1 := inv_start S hr.hd e0 hl r x
  refine wpAny_mono (ht.run [] s1 (start N vs) H _ I hq) (fun fl s' hs => ?_) fun e s' hs => hs
  cases fl with
  | ret u =>
    obtain ⟨v, σ', H', J, rv, q⟩ := hs
    exact ⟨v, H', J.os, J.bare, J.base, J.hok, rv, q⟩
  | next =>
    obtain ⟨σ', H', J, q⟩ := hs
    exact ⟨V.non, H', J.os, J.bare, J.base, J.hok, rfl, q⟩
  | brk =>
    obtain ⟨_, _, _, q⟩ := hs
    exact False.elim q
  | cont =>
    obtain ⟨_, _, _, q⟩ := hs
    exact False.elim q
/-- a def by its body -/
theorem fn_mp {f : Addr} {name qual : Str} {params : Arguments} {body : List Stmt} {scope : Scope} {dV kV doc pm cdv ct oc : Value} {an od : Option Addr} {osl : Array (Option Value)} {ps : List Str} {m : MS}
    (lk : g.K.lookup f = some ⟨oc, od, .func (PySem.W.fnOf name qual params body scope dV kV doc pm an cdv ct), osl⟩) (hcd : PySem.W.codeIn g.K cdv qual = true) (S : FnScope N ps scope) (hb : SB g N (dsc scope) k body m) :
    FnG g.P g.w g.K g.mg g.base (L2.CX g.P g.w) (k + 1) f (PySem.W.fnOf name qual params body scope dV kV doc pm an cdv ct) ps (spF g (runF N.length m) ps.length) := by
  refine fn_g lk hcd S (fun vs H Q E h => h.1) fun A outer s H vs Q E hr hgd hsp => ?_
  obtain ⟨hl, G, ι, as, h, ra, rh, p⟩ := hsp
  have c : At g N (dsc scope) k (cxOf (L2.CX g.P g.w) g.P g.w g.K g.mg g.base N qual scope f cdv A outer s H E) (fun c _ H' => ∀ C, g.ca c = some C → E (.ref C) none H') := {
    eP := rfl, ew := rfl, eK := rfl, em := rfl, eb := rfl, eN := rfl, es := rfl, nd := S.nd, calm := rfl, room := hr, gd := hgd
    tk := (takes_of (E := E) rfl rfl rfl rfl).imp fun cls d σ H z => by
      obtain ⟨c, C, hC, e1, e2, hw⟩ := z
      subst e1 e2
      exact hw C hC
    po := passes_of rfl
    fn := fun _ _ => rfl }
  refine ⟨_, hb _ _ c, G, ι, _, h, rs_start ra, rh, ?_⟩
  unfold runF at p
  cases e : m (as.map some ++ List.replicate (N.length - as.length) none) h with
  | nx e1 h1 =>
    rw [e] at p
    intro G' ι' H' σ' gr rh' rs'
    exact fin1_post rh.len gr rh' .non p
  | rt v h1 =>
    rw [e] at p
    intro G' ι' H' x gr rh' rx
    exact fin1_post rh.len gr rh' rx p
  | ex c2 e1 h1 =>
    rw [e] at p
    exact fun G' ι' H' σ' gr rh' rs' => p G' ι' H' gr rh'
  | bk e1 h1 => rw [e] at p; exact p.elim
  | ct e1 h1 => rw [e] at p; exact p.elim
  | bad => rw [e] at p; exact p.elim

/-! ### calls -/
/-- the def at f, called with so many written arguments, is worth F -/
structure FA (g : GX) (j : Nat) (f : Addr) (F : FD) : Prop where
  ex : ∃ (fd : FuncData) (ps : List Str) (ds : List Value) (dvs : List V) (dds : List D) (F0 : FD), FnG g.P g.w g.K g.mg g.base (L2.CX g.P g.w) j f fd ps (spF g F0 ps.length) ∧ Binds g.K fd ps ds ∧ Vals dvs ds ∧ (∀ G ι, RepL g.w g.K g.ca G ι dds dvs) ∧
    (∀ as h, F as h = if as.length + dds.length = ps.length then F0 (as ++ dds) h else .bad)
  kp : PySem.W.keepIn g.K (.ref f) = true
theorem run_fa {j : Nat} {f : Addr} {F : FD} (fa : FA g j f F) {X : Cx} (c : At g N sc k X W) (hr : Room j X.A) {pins : List (Addr × Obj)} {s : Shared} {Q : VK} {us : List Value} {vs : List V} {as : List D} (I : Inv X pins σ H s) (r : Vals vs us)
    (ra : RepL g.w g.K g.ca G ι as vs) (rh : RH g.w g.K g.ca G ι H h) (p : PostR g W σ (RpE g) G ι (F as h) Q) : wpAny (model X.prog X.w) X.A (call (.ref f) us) (EP X pins σ Q) X.xe s := by
  obtain ⟨fd, ps, ds, dvs, dds, F0, ok, hb, hd, rd, hF⟩ := fa.ex
  rw [hF] at p
  split at p
  · rename_i hlen
    have r2 : Vals (vs ++ dvs) (us ++ ds) := r.append hd
    have ra2 : RepL g.w g.K g.ca G ι (as ++ dds) (vs ++ dvs) := ra.app (rd G ι)
    have hl : (us ++ ds).length = ps.length := by
      rw [← r2.length, ← ra2.length, List.length_append]; exact hlen
    have e0 := I.env0
    have kin : g.K.In s.heap := by rw [← c.eK]; exact I.kIn
    have hbs := hb s us kin hl
    have ok' : FnG X.prog X.w X.K X.mg X.base (L2.CX X.prog X.w) j f fd ps (spF g F0 ps.length) := by
      rw [c.eP, c.ew, c.eK, c.em, c.eb]; exact ok
    have hsp : spF g F0 ps.length (vs ++ dvs) H Q (fun cls d H' => wx g.ca W cls d σ H') := by
      refine ⟨by rw [← ra2.length, List.length_append]; exact hlen, G, ι, as ++ dds, h, ra2, rh, ?_⟩
      cases e : F0 (as ++ dds) h with
      | ok v h1 => rw [e] at p; exact p
      | exc x h1 => rw [e] at p; exact fun G' ι' H' gr rh' C hC => ⟨x, C, hC, rfl, rfl, p G' ι' H' gr rh'⟩
      | bad => rw [e] at p; exact p
    refine wpAny_call (codeAny_mono (ok'.run X.A X.stack s H ⟨us, []⟩ (us ++ ds) (vs ++ dvs) Q _ hr c.gd e0 hbs r2 hsp) fun r s' hq => ?_)
    cases r with
    | error e => exact c.tk e s' (XE.of_call I (fun _ _ _ z => z) hq)
    | ok fl =>
      cases fl with
      | ret u => exact I.after hq
      | next => exact False.elim hq
      | brk => exact False.elim hq
      | cont => exact False.elim hq
  · exact p.elim
/-- a name of the module that is a def -/
structure FO (g : GX) (j : Nat) (x : Str) (F : FD) : Prop where
  ex : ∃ f, g.mg x = some (.ref f) ∧ FA g j f F
theorem se_call {x : Str} {p pos : Pos} {e : Expr} {es : List Expr} {F : FD} {ma : MA} {j : Nat} (fo : FO g j x F) (ha : SA g N sc k (e :: es) ma) (hj : j ≤ k := by decide)
    (hs : notStar e = true := by rfl) (hpl : ∀ env, (backTo pos (starEach es env)).any (·.1) = false := by intro _; rfl) (hg : sc.names.lookup x = some .globalImplicit := by rfl) (hdb : (x == ("__debug__" : Str)) = false := by decide) :
    SE g N sc k (.Call (.Name x p) (e :: es) [] pos) (mL F ma) := fun X W c => by
  obtain ⟨f, hm, fa⟩ := fo.ex
  refine ⟨fun pins s σ H Q I q => ?_⟩
  obtain ⟨G, ι, ev, h, rs, rh, pp⟩ := q
  refine wpAny_Call_Name_kw (ld_glob I (c.gl hg) (by rw [c.em]; exact hm) ?_ hdb)
  have hk : PySem.W.keepIn X.K (.ref f) = true := by rw [c.eK]; exact fa.kp
  refine PySem.W.callWith_K (h₀ := X.base) I.ok.mod.kin hk (thn ((ha X W c).run pos pins s σ H _ I (tA_go rs rh pp fun v h1 G1 ι1 H1 x _ gr rh1 rs1 rx p1 => (⟨G1, ι1, v, h1, rh1, rx, p1⟩ : (fun (x : List V) (H1 : Hp) => ∃ G1 ι1 v h1, RH g.w g.K g.ca G1 ι1 H1 h1 ∧ RepL g.w g.K g.ca G1 ι1 v x ∧ PostR g W σ (RpE g) G1 ι1 (F v h1) Q) x H1))) fun us s1 hh => ?_) (star_no hs) (hpl _)
  obtain ⟨vs, H1, I1, r, G1, ι1, v, h1, rh1, rx, p1⟩ := hh
  exact ⟨I1.kIn, run_fa fa c (c.room.mono hj) I1 r rx rh1 p1⟩
theorem se_call0 {x : Str} {p pos : Pos} {F : FD} {j : Nat} (fo : FO g j x F) (hj : j ≤ k := by decide) (hg : sc.names.lookup x = some .globalImplicit := by rfl) (hdb : (x == ("__debug__" : Str)) = false := by decide) :
    SE g N sc k (.Call (.Name x p) [] [] pos) (mL F aNil) := fun X W c => by
  obtain ⟨f, hm, fa⟩ := fo.ex
  refine ⟨fun pins s σ H Q I q => ?_⟩
  obtain ⟨G, ι, ev, h, rs, rh, pp⟩ := q
  refine wpAny_Call_Name_kw (ld_glob I (c.gl hg) (by rw [c.em]; exact hm) ?_ hdb)
  have hk : PySem.W.keepIn X.K (.ref f) = true := by rw [c.eK]; exact fa.kp
  exact PySem.W.callWith_K0 I.kIn hk (run_fa (us := []) (as := []) fa c (c.room.mono hj) I .nil .nil rh pp)

/-! ### instances -/
/-- what the walk asks of the own classes -/
structure CF (g : GX) : Prop where
  cl : ∀ c C, g.ca c = some C → c < 20 → Cls g.K C
  no : ∀ c C (f : Fld), g.ca c = some C → c < 20 → NoAttr g.K C f.nm
def clsOf (h : Hm) : D → Option Nat
  | .ins c _ => some c
  | .loc l => match h.get l with
    | some (.ins c _) => some c
    | _ => none
  | _ => none
def fldsOf (h : Hm) : D → Option (List (Fld × D))
  | .ins _ fs => some fs
  | .loc l => match h.get l with
    | some (.ins _ fs) => some fs
    | _ => none
  | _ => none
theorem ins_of (rh : RH w K ca G ι H h) {d : D} {x : V} {c : Nat} (r : Rep w K ca G ι d x) (e : clsOf h d = some c) : ∃ a C dx fs fds, x = .ref a ∧ ca c = some C ∧ H a = some (.ins C dx fs) ∧ fldsOf h d = some fds ∧ RepF w K ca G ι fds fs := by
  cases r with
  | ins hc q rf =>
    cases e
    exact ⟨_, _, _, _, _, rfl, hc, rh.le _ _ q, rfl, rf⟩
  | loc q =>
    rename_i l a
    cases hl : h.get l with
    | none => simp [clsOf, hl] at e
    | some mo =>
      cases mo with
      | ins c' fds =>
        simp [clsOf, hl] at e
        subst e
        obtain ⟨a2, u, e2, _, _, hu, ro⟩ := rh.loc hl (.loc q)
        cases e2
        cases ro with
        | ins hc rf => exact ⟨_, _, _, _, _, rfl, hc, hu, by simp [fldsOf, hl], rf⟩
      | lst _ => simp [clsOf, hl] at e
      | dct _ => simp [clsOf, hl] at e
  | _ => cases e
/-- o.f, a field -/
def fFld (f : Fld) : D → Hm → Res D := fun v h => match clsOf h v with
  | some c => if c < 20 then (match (fldsOf h v).bind (·.lookup f) with
    | some d => .ok d h
    | none => .bad) else .bad
  | none => .bad
theorem se_fld (cf : CF g) (f : Fld) {a : Expr} {x : Str} {ma : ME} {pos : Pos} (ha : SE g N sc k a ma) (hx : x = f.nm := by rfl) (hb : ∀ env, attributeBase a x env (eval a env) = eval a env := by intro _; rfl) : SE g N sc k (.Attribute a x pos) (m1 (fFld f) ma) := fun X W c => by
  refine (pe_fld (ha X W c) (hb X.env)).imp fun σ H Q q => ?_
  obtain ⟨G, ι, e, h, rs, rh, p⟩ := q
  refine tE_go rs rh p fun v h1 G1 ι1 H1 y _ gr rh1 rs1 rx p1 => ?_
  unfold fFld at p1
  split at p1
  · rename_i cc ec
    split at p1
    · rename_i hlt
      obtain ⟨a, C, dx, fs, fds, rfl, hC, hH, hf, rf⟩ := ins_of rh1 rx ec
      rw [hf] at p1
      simp only [Option.bind_some] at p1
      cases el : fds.lookup f with
      | none => rw [el] at p1; exact p1.elim
      | some d =>
        rw [el] at p1
        obtain ⟨z, hz, rz⟩ := rf.lookup f el
        subst hx
        exact ⟨a, C, dx, fs, z, rfl, hH, by rw [c.eK]; exact cf.cl cc C hC hlt, by rw [c.eK]; exact cf.no cc C f hC hlt, hz, p1.here rh1 rz⟩
    · exact p1.elim
  · exact p1.elim
theorem getprop_g {X : Cx} {j : Nat} {C p f a dx : Addr} {fs : List (Str × V)} {x : Str} {fd : FuncData} {ps : List Str} {sp : Sp} {dvs : List V} {ds : List Value} {pins : List (Addr × Obj)} {s : Shared} {Q : VK} {b : Bool} {E' : Value → Shared → Prop} (I : Inv X pins σ H s) (ea : H a = some (.ins C dx fs)) (c : Cls X.K C) (hp : PropOf X.K C x p f)
    (F : FnG X.prog X.w X.K X.mg X.base (L2.CX X.prog X.w) j f fd ps sp) (hr : Room (j + 1) X.A) (hg : X.A.guards = some []) (hb : Binds X.K fd ps ds) (hd : Vals dvs ds) (h : sp (.ref a :: dvs) H Q (fun _ _ _ => False)) :
    wpAny (model X.prog X.w) X.A (getAttr (.ref a) x b) (EP X pins σ Q) E' s := by
  obtain ⟨mA, O, _, _, _, _⟩ := ins_get I.hok ea
  obtain ⟨od, J, _⟩ := O.look
  obtain ⟨rest, hrec⟩ := hp.rec_
  have I1 := I.tok (s.toks + 1)
  have hl : ([Value.ref a] ++ ds).length = ps.length := by
    rw [← F.len _ _ _ _ h]
    show ds.length + 1 = dvs.length + 1
    rw [hd.length]
  have hc : (PySem.W.clsIn X.K C).isSome = true := by
    obtain ⟨cd, hc, _⟩ := PySem.W.any_some c.hd
    rw [hc]
    rfl
  refine PySem.W.get_bind I.kIn J (PySem.W.plainGet_of (c.get x)).1 (PySem.W.findObj_data hc hp.at_ hp.get hp.tak) (PySem.W.plainGet_of (c.get x)).2 (wpAny_call (PySem.W.prop_get (s := { s with toks := s.toks + 1 }) I.kIn hrec ?_))
  refine codeAny_mono (F.run X.A.in1 X.stack { s with toks := s.toks + 1 } H ⟨[.ref a], []⟩ (.ref a :: ds) (.ref a :: dvs) Q (fun _ _ _ => False) hr.in1 hg I1.env0.in1 (hb _ [.ref a] I1.kIn hl) (.cons rfl hd) h) fun r s' hq => ?_
  cases r with
  | error er => exact False.elim ((passL (X := X.nox)) pins σ H { s with toks := s.toks + 1 } er s' (I1.wish _) hq)
  | ok fl =>
    cases fl with
    | ret u =>
      obtain ⟨v, H', I3, rv, q3⟩ := I1.after hq
      show wpAny _ _ (handedOut u) _ _ _
      rw [PySem.W.handedOut_of (handed_of rv)]
      exact wpAny_pure ⟨v, H', I3, rv, q3⟩
    | next => exact False.elim hq
    | brk => exact False.elim hq
    | cont => exact False.elim hq
/-- o.p, a property: by classes -/
structure PA1 (g : GX) (j : Nat) (x : Str) (tbl : Nat → Option FD) : Prop where
  ok : ∀ c C F, tbl c = some F → g.ca c = some C → c < 20 ∧ ∃ p f, PropOf g.K C x p f ∧ FA g j f F
def mProp (tbl : Nat → Option FD) (a : ME) : ME := fun e h => (a e h).bind fun v h1 => match (clsOf h1 v).bind tbl with
  | some F => nox (F [v] h1)
  | none => .bad
theorem se_prop (cf : CF g) {j : Nat} {tbl : Nat → Option FD} {a : Expr} {x : Str} {ma : ME} {pos : Pos} (pt : PA1 g j x tbl) (ha : SE g N sc k a ma) (hj : j + 1 ≤ k := by decide) (hb : ∀ env, attributeBase a x env (eval a env) = eval a env := by intro _; rfl) : SE g N sc k (.Attribute a x pos) (mProp tbl ma) := fun X W c => by
  refine ⟨fun pins s σ H Q I q => ?_⟩
  obtain ⟨G, ι, e, h, rs, rh, p⟩ := q
  refine attr_of (hb X.env) (thn ((ha X W c).run pins s σ H _ I (tE_go rs rh p fun v h1 G1 ι1 H1 x _ gr rh1 rs1 rx p1 => (⟨G1, ι1, v, h1, rh1, rx, p1⟩ : (fun (x : V) (H1 : Hp) => ∃ G1 ι1 v h1, RH g.w g.K g.ca G1 ι1 H1 h1 ∧ Rep g.w g.K g.ca G1 ι1 v x ∧ PostR g W σ (RpE g) G1 ι1 (match (clsOf h1 v).bind tbl with | some F => nox (F [v] h1) | none => .bad) Q) x H1))) fun u s1 hh => ?_)
  obtain ⟨y, H1, I1, ry, G1, ι1, v, h1, rh1, rx, p1⟩ := hh
  cases ec : clsOf h1 v with
  | none => rw [ec] at p1; exact p1.elim
  | some cc =>
    rw [ec] at p1
    simp only [Option.bind_some] at p1
    cases et : tbl cc with
    | none => rw [et] at p1; exact p1.elim
    | some F =>
      rw [et] at p1
      obtain ⟨a, C, dx, fs, fds, rfl, hC, hH, hf, rf⟩ := ins_of rh1 rx ec
      obtain ⟨hlt, pa, fa, po, FA⟩ := pt.ok cc C F et hC
      obtain rfl : u = Value.ref a := ry
      obtain ⟨fd, ps, ds, dvs, dds, F0, ok, hbd, hd, rd, hF⟩ := FA.ex
      have p2 : PostR g W σ (RpE g) G1 ι1 (nox (F [v] h1)) Q := p1
      rw [hF] at p2
      by_cases hlen : [v].length + dds.length = ps.length
      · rw [if_pos hlen] at p2
        have ra2 : RepL g.w g.K g.ca G1 ι1 ([v] ++ dds) (V.ref a :: dvs) := .cons rx (rd G1 ι1)
        refine getprop_g (j := j) (fd := fd) (ps := ps) (sp := spF g F0 ps.length) (dvs := dvs) (ds := ds) I1 hH (by rw [c.eK]; exact cf.cl cc C hC hlt) (by rw [c.eK]; exact po) (by rw [c.eP, c.ew, c.eK, c.em, c.eb]; exact ok) (c.room.mono hj) c.gd (by rw [c.eK]; exact hbd) hd ?_
        refine ⟨by rw [← ra2.length, List.length_append]; exact hlen, G1, ι1, [v] ++ dds, h1, ra2, rh1, ?_⟩
        cases e0 : F0 ([v] ++ dds) h1 with
        | ok z h2 => rw [e0] at p2; exact p2
        | exc _ _ => rw [e0] at p2; exact p2.elim
        | bad => rw [e0] at p2; exact p2.elim
      · rw [if_neg hlen] at p2; exact p2.elim
/-- o.m(e, ..), a method: by classes -/
structure MA1 (g : GX) (j : Nat) (m : Str) (tbl : Nat → Option FD) : Prop where
  ok : ∀ c C F, tbl c = some F → g.ca c = some C → c < 20 ∧ ∃ f, Meth g.K C m f ∧ FA g j f F
  nf : ∀ f : Fld, f.nm ≠ m
def mMeth (tbl : Nat → Option FD) (o : ME) (ma : MA) : ME := fun e h => (o e h).bind fun v h1 => match (clsOf h1 v).bind tbl with
  | some F => (ma e h1).bind fun as h2 => F (v :: as) h2
  | none => .bad
theorem se_meth (cf : CF g) {j : Nat} {tbl : Nat → Option FD} {o e : Expr} {es : List Expr} {m : Str} {mo : ME} {ma : MA} {apos pos : Pos} (mt : MA1 g j m tbl) (ho : SE g N sc k o mo) (ha : SA g N sc k (e :: es) ma) (hj : j ≤ k := by decide) (hs : notStar e = true := by rfl) (hpl : ∀ env, (backTo pos (starEach es env)).any (·.1) = false := by intro _; rfl)
    (ht : ∀ env : Env, ∃ pl : Sem Bool, eval (.Call (.Attribute o m apos) (e :: es) [] pos) env = (do
      let ov ← eval o env
      standAt apos.atName
      let (f, first) ← holding [ov] (getMethod ov m pl)
      callWith pos f first (backTo pos (starEach (e :: es) env)) (backToKw pos (keywordEach [] env))) := by intro _; exact ⟨_, rfl⟩) : SE g N sc k (.Call (.Attribute o m apos) (e :: es) [] pos) (mMeth tbl mo ma) := fun X W c => by
  refine ⟨fun pins s σ H Q I q => ?_⟩
  obtain ⟨G, ι, ev, h, rs, rh, p⟩ := q
  obtain ⟨pl, ht⟩ := ht X.env
  refine PySem.W.methodCall_KW (pl := pl) (thn ((ho X W c).run pins s σ H _ I (tE_go rs rh p fun v h1 G1 ι1 H1 x _ gr rh1 rs1 rx p1 => (⟨G1, ι1, v, h1, rh1, rs1, rx, p1⟩ : (fun (x : V) (H1 : Hp) => ∃ G1 ι1 v h1, RH g.w g.K g.ca G1 ι1 H1 h1 ∧ RS g.w g.K g.ca G1 ι1 σ ev ∧ Rep g.w g.K g.ca G1 ι1 v x ∧ PostR g W σ (RpE g) G1 ι1 (match (clsOf h1 v).bind tbl with | some F => (ma ev h1).bind fun as h2 => F (v :: as) h2 | none => .bad) Q) x H1))) fun u s1 hh => ?_) ht
  obtain ⟨y, H1, I1, ry, G1, ι1, v, h1, rh1, rs1, rx, p1⟩ := hh
  cases ec : clsOf h1 v with
  | none => rw [ec] at p1; exact p1.elim
  | some cc =>
    rw [ec] at p1
    simp only [Option.bind_some] at p1
    cases et : tbl cc with
    | none => rw [et] at p1; exact p1.elim
    | some F =>
      rw [et] at p1
      obtain ⟨a, C, dx, fs, fds, rfl, hC, hH, hf, rf⟩ := ins_of rh1 rx ec
      obtain ⟨hlt, f, me, fa⟩ := mt.ok cc C F et hC
      obtain rfl : u = Value.ref a := ry
      refine getmeth_ok I1 hH (by rw [c.eK]; exact cf.cl cc C hC hlt) (by rw [c.eK]; exact me) (rf.lookup_none m mt.nf) ?_
      refine PySem.W.callWith_K (first := [.ref a]) (h₀ := X.base) I.ok.mod.kin (by rw [c.eK]; exact me.kp) (thn ((ha X W c).run pos pins s1 σ H1 _ I1 (tA_go rs1 rh1 p1 fun vs h2 G2 ι2 H2 x _ gr2 rh2 rs2 rx2 p2 => (⟨G2, ι2, vs, h2, rh2, rx.mono gr2.s gr2.p, rx2, p2⟩ : (fun (x : List V) (H2 : Hp) => ∃ G2 ι2 vs h2, RH g.w g.K g.ca G2 ι2 H2 h2 ∧ Rep g.w g.K g.ca G2 ι2 v (.ref a) ∧ RepL g.w g.K g.ca G2 ι2 vs x ∧ PostR g W σ (RpE g) G2 ι2 (F (v :: vs) h2) Q) x H2))) fun us s2 hh => ?_) (star_no hs) (hpl _)
      obtain ⟨vs, H2, I2, r, G2, ι2, as, h2, rh2, rv, rx2, p2⟩ := hh
      exact ⟨I2.kIn, run_fa (us := .ref a :: us) (vs := .ref a :: vs) fa c (c.room.mono hj) I2 (.cons rfl r) (.cons rv rx2) rh2 p2⟩
theorem se_meth0 (cf : CF g) {j : Nat} {tbl : Nat → Option FD} {o : Expr} {m : Str} {mo : ME} {apos pos : Pos} (mt : MA1 g j m tbl) (ho : SE g N sc k o mo) (hj : j ≤ k := by decide)
    (ht : ∀ env : Env, ∃ pl : Sem Bool, eval (.Call (.Attribute o m apos) [] [] pos) env = (do
      let ov ← eval o env
      standAt apos.atName
      let (f, first) ← holding [ov] (getMethod ov m pl)
      callWith pos f first (backTo pos (starEach [] env)) (backToKw pos (keywordEach [] env))) := by intro _; exact ⟨_, rfl⟩) : SE g N sc k (.Call (.Attribute o m apos) [] [] pos) (mMeth tbl mo aNil) := fun X W c => by
  refine ⟨fun pins s σ H Q I q => ?_⟩
  obtain ⟨G, ι, ev, h, rs, rh, p⟩ := q
  obtain ⟨pl, ht⟩ := ht X.env
  refine PySem.W.methodCall_KW (pl := pl) (thn ((ho X W c).run pins s σ H _ I (tE_go rs rh p fun v h1 G1 ι1 H1 x _ gr rh1 rs1 rx p1 => (⟨G1, ι1, v, h1, rh1, rs1, rx, p1⟩ : (fun (x : V) (H1 : Hp) => ∃ G1 ι1 v h1, RH g.w g.K g.ca G1 ι1 H1 h1 ∧ RS g.w g.K g.ca G1 ι1 σ ev ∧ Rep g.w g.K g.ca G1 ι1 v x ∧ PostR g W σ (RpE g) G1 ι1 (match (clsOf h1 v).bind tbl with | some F => (aNil ev h1).bind fun as h2 => F (v :: as) h2 | none => .bad) Q) x H1))) fun u s1 hh => ?_) ht
  obtain ⟨y, H1, I1, ry, G1, ι1, v, h1, rh1, rs1, rx, p1⟩ := hh
  cases ec : clsOf h1 v with
  | none => rw [ec] at p1; exact p1.elim
  | some cc =>
    rw [ec] at p1
    simp only [Option.bind_some] at p1
    cases et : tbl cc with
    | none => rw [et] at p1; exact p1.elim
    | some F =>
      rw [et] at p1
      obtain ⟨a, C, dx, fs, fds, rfl, hC, hH, hf, rf⟩ := ins_of rh1 rx ec
      obtain ⟨hlt, f, me, fa⟩ := mt.ok cc C F et hC
      obtain rfl : u = Value.ref a := ry
      refine getmeth_ok I1 hH (by rw [c.eK]; exact cf.cl cc C hC hlt) (by rw [c.eK]; exact me) (rf.lookup_none m mt.nf) ?_
      exact PySem.W.callWith_K0 (first := [.ref a]) I1.kIn (by rw [c.eK]; exact me.kp) (run_fa (us := [.ref a]) (vs := [.ref a]) (as := [v]) fa c (c.room.mono hj) I1 (.cons rfl .nil) (.cons rx .nil) rh1 p1)

/-! ### making an instance -/
/-- x.f = e -/
def putFD (f : Fld) (d : D) : List (Fld × D) → List (Fld × D)
  | [] => [(f, d)]
  | (f', d') :: r => if f' = f then (f', d) :: r else (f', d') :: putFD f d r
theorem putF_rep {f : Fld} {d : D} {v : V} (r : Rep w K ca G ι d v) : ∀ {fds : List (Fld × D)} {fs : List (Str × V)}, RepF w K ca G ι fds fs → RepF w K ca G ι (putFD f d fds) (putF f.nm v fs)
  | _, _, .nil => .cons r .nil
  | _, _, .cons (f := f') r' t => by
    unfold putFD putF
    by_cases e : f' = f
    · subst e
      rw [if_pos rfl, if_pos rfl]
      exact .cons r t
    · rw [if_neg e, if_neg (fun z => e (Fld.nm_inj z))]
      exact .cons r' (putF_rep r t)
theorem putF_len {fds : List (Fld × D)} {fs : List (Str × V)} (r : RepF w K ca G ι fds fs) : fds.length = fs.length := by
  induction fds generalizing fs with
  | nil => cases r; rfl
  | cons a t ih => cases r with | cons _ t' => simp [ih t']
def sFld (f : Fld) (o v : ME) : MS := fun e h => match v e h with
  | .ok d h1 => (match o e h1 with
    | .ok (.loc l) h2 => (match h2.get l with
      | some (.ins c fs) => if c < 20 ∧ fs.length < 1000 then .nx e (h2.set l (some (.ins c (putFD f d fs)))) else .bad
      | _ => .bad)
    | _ => .bad)
  | .exc c h1 => .ex c e h1
  | .bad => .bad
end
end MP
end L2

set_option Elab.async false
set_option linter.all false
set_option maxRecDepth 100000
set_option maxHeartbeats 2000000
namespace L2
namespace MP
open PySem PySem.Spec PyProof.Rows
section
variable {g : GX} {N : List Str} {sc : SC} {k : Nat} {W : XW} {σ : St} {G : GP} {ι : List Addr} {H : Hp} {h : Hm} {ev : Ev} {w : World} {K : PySem.W.Frag} {ca : Nat → Option Addr}
theorem ss_fld (cf : CF g) (f : Fld) {o v : Expr} {x : Str} {mo mv : ME} {pos pos' : Pos} (ho : SE g N sc k o mo) (hv : SE g N sc k v mv) (hx : x = f.nm := by rfl) (hs : ∀ env, swapsWith v (some (.Attribute o x pos')) pos.line env = pure false := by intro _; rfl) : SS g N sc k (.Assign [.Attribute o x pos'] v pos) (sFld f mo mv) := fun X W c =>
  (ps_fld (ho X W c) (hv X W c) (hs _)).imp fun D σ H q => by
    obtain ⟨G, ι, e, h, rs, rh, p⟩ := q
    refine tE_s (f := fun d h1 => match mo e h1 with
      | .ok (.loc l) h2 => (match h2.get l with
        | some (.ins c fs) => if c < 20 ∧ fs.length < 1000 then .nx e (h2.set l (some (.ins c (putFD f d fs)))) else .bad
        | _ => .bad)
      | _ => .bad) rs rh rfl p fun d h1 G1 ι1 H1 y gr rh1 rs1 ry p1 => ?_
    refine ⟨G1, ι1, e, h1, rs1, rh1, ?_⟩
    cases eo : mo e h1 with
    | exc _ _ => rw [eo] at p1; exact p1.elim
    | bad => rw [eo] at p1; exact p1.elim
    | ok z h2 =>
      rw [eo] at p1
      intro G2 ι2 H2 x2 gr2 rh2 rx2
      cases z with
      | loc l =>
        simp only at p1
        cases hl : h2.get l with
        | none => rw [hl] at p1; exact p1.elim
        | some mo2 =>
          rw [hl] at p1
          cases mo2 with
          | lst _ => exact p1.elim
          | dct _ => exact p1.elim
          | ins cc fds =>
            simp only at p1
            split at p1
            · rename_i hc
              obtain ⟨a, u, rfl, hi, _, hu, ro⟩ := rh2.loc hl rx2
              cases ro with
              | ins hC rf =>
                refine ⟨a, _, _, _, rfl, hu, by rw [c.eK]; exact cf.cl _ _ hC hc.1, by rw [c.eK, hx]; exact cf.no _ _ f hC hc.1, by rw [← putF_len rf]; exact hc.2, ?_⟩
                rw [hx]
                exact p1 G2 ι2 _ σ gr2 (rh2.wr hl hi (.ins hC (putF_rep (ry.mono gr2.s gr2.p) rf))) (rs1.mono gr2.s gr2.p)
            · exact p1.elim
      | _ => exact p1.elim
theorem RH.other (r : RH w K ca G ι H h) {p : Addr} {o : HO} (hp : H p = none) : RH w K ca G ι (upd H p o) h :=
  ⟨fun b u e => by rw [upd_ne (ne_of_none (r.le b u e) hp)]; exact r.le b u e, fun b u e => by rw [upd_ne (ne_of_none (r.pin b u e) hp)]; exact r.pin b u e, r.dis, r.len, fun l mo e => by
    obtain ⟨a, u, h1, h2, h3, h4⟩ := r.obj l mo e
    exact ⟨a, u, h1, h2, by rw [upd_ne (ne_of_none h3 hp)]; exact h3, h4⟩, r.inj⟩
/-- C(..): an instance that does not change behind its __init__; one that may -/
def mkD (c : Nat) (F : FD) : FD := fun as h => match F (.loc h.length :: as) (h ++ [some (.ins c [])]) with
  | .ok .non h2 => (match h2.get h.length with
    | some (.ins c' fs) => fin1 h.length (.ins c' fs) (h2.set h.length none)
    | _ => .bad)
  | .exc x h2 => .exc x h2
  | _ => .bad
def mkL (c : Nat) (F : FD) : FD := fun as h => match F (.loc h.length :: as) (h ++ [some (.ins c [])]) with
  | .ok .non h2 => .ok (.loc h.length) h2
  | .exc x h2 => .exc x h2
  | _ => .bad
structure MO2 (g : GX) (j : Nat) (x : Str) (c : Nat) (F : FD) : Prop where
  ex : ∃ C f, g.mg x = some (.ref C) ∧ g.ca c = some C ∧ Mk g.K C f ∧ FA g j f F
theorem guards_make {A : Around} (h : A.guards = some []) {C : Addr} {us : List Value} {kw : List (Str × Value)} : (A.under (.builtin "type.__call__" ⟨.ref C :: us, kw⟩)).guards = some [] := by
  have e : (Code.builtin "type.__call__" ⟨.ref C :: us, kw⟩).guards = [] := by
    unfold Code.guards
    rw [if_neg]
    show ¬ (guardIds.contains "type.__call__" = true)
    decide +kernel
  have e2 : (A.under (.builtin "type.__call__" ⟨.ref C :: us, kw⟩)).guards = pushGuards (Code.builtin "type.__call__" ⟨.ref C :: us, kw⟩).guards A.guards := rfl
  rw [e2, e, h]; rfl
theorem run_mk {j : Nat} {c0 : Nat} {C f : Addr} {F : FD} (M : Mk g.K C f) (hC : g.ca c0 = some C) (fa : FA g j f F) {X : Cx} (c : At g N sc k X W) (hr : Room (j + 1) X.A) {pins : List (Addr × Obj)} {s : Shared} {Q : VK} {us : List Value} {vs : List V} {as : List D} (I : Inv X pins σ H s) (r : Vals vs us)
    (ra : RepL g.w g.K g.ca G ι as vs) (rh : RH g.w g.K g.ca G ι H h) {fin : Hm → Res D}
    (hfin : ∀ x G' ι' H' h', Gr G ι G' ι' → RH g.w g.K g.ca G' ι' H' h' → ι'[h.length]? = some x → PostR g W σ (RpE g) G ι (fin h') Q → Q (.ref x) H')
    (p : PostR g W σ (RpE g) G ι (match F (.loc h.length :: as) (h ++ [some (.ins c0 [])]) with | .ok .non h2 => fin h2 | .exc x h2 => .exc x h2 | _ => .bad) Q) : wpAny (model X.prog X.w) X.A (call (.ref C) us) (EP X pins σ Q) X.xe s := by
  obtain ⟨fd, ps, ds, dvs, dds, F0, ok, hb, hd, rd, hF⟩ := fa.ex
  have ok' : FnG X.prog X.w X.K X.mg X.base (L2.CX X.prog X.w) j f fd ps (spF g F0 ps.length) := by
    rw [c.eP, c.ew, c.eK, c.em, c.eb]; exact ok
  have MX : Mk X.K C f := by rw [c.eK]; exact M
  have hbX : Binds X.K fd ps ds := by rw [c.eK]; exact hb
  rw [hF] at p
  by_cases hlen : (D.loc h.length :: as).length + dds.length = ps.length
  · rw [if_pos hlen] at p
    have nx : H (s.heap.objs.size + 1) = none := I.hok.fresh (Nat.le_succ _)
    have ndx : H s.heap.objs.size = none := I.hok.fresh (Nat.le_refl _)
    have nex : s.heap.objs.size ≠ s.heap.objs.size + 1 := Nat.ne_of_lt (Nat.lt_succ_self _)
    have I2 := Inv.made (C := C) I
    have rh0 := rh.other (o := .own (s.heap.objs.size + 1)) ndx
    obtain ⟨gr1, rh1⟩ := rh0.new (p := s.heap.objs.size + 1) (o := .ins C s.heap.objs.size []) (mo := .ins c0 []) (by rw [upd_ne (Ne.symm nex)]; exact nx) (.ins hC .nil)
    have hix : (ι ++ [s.heap.objs.size + 1])[h.length]? = some (s.heap.objs.size + 1) := by rw [← rh.len]; simp
    have ra2 : RepL g.w g.K g.ca G (ι ++ [s.heap.objs.size + 1]) ((.loc h.length :: as) ++ dds) (V.ref (s.heap.objs.size + 1) :: (vs ++ dvs)) := .cons (.loc hix) ((ra.mono gr1.s gr1.p).app (rd _ _))
    have r2 : Vals (V.ref (s.heap.objs.size + 1) :: (vs ++ dvs)) (Value.ref (s.heap.objs.size + 1) :: (us ++ ds)) := .cons rfl (r.append hd)
    have hl : (Value.ref (s.heap.objs.size + 1) :: us ++ ds).length = ps.length := by
      have e := r2.length
      rw [← ra2.length, List.length_append, hlen] at e
      exact e.symm
    have hsp : spF g F0 ps.length (V.ref (s.heap.objs.size + 1) :: (vs ++ dvs)) (upd (upd H s.heap.objs.size (.own (s.heap.objs.size + 1))) (s.heap.objs.size + 1) (.ins C s.heap.objs.size [])) (fun v H2 => v = .non ∧ Q (.ref (s.heap.objs.size + 1)) H2) (fun cls d H' => wx g.ca W cls d σ H') := by
      refine ⟨by rw [← ra2.length, List.length_append]; exact hlen, G, _, _, _, ra2, rh1, ?_⟩
      cases e : F0 ((.loc h.length :: as) ++ dds) (h ++ [some (.ins c0 [])]) with
      | ok v h1 =>
        rw [e] at p
        intro G' ι' H' y gr rh' ry
        cases ry with
        | non => exact ⟨rfl, hfin _ G' ι' H' h1 (gr1.trans gr) rh' (pre_get gr.p hix) p⟩
        | _ => exact p.elim
      | exc x h1 =>
        rw [e] at p
        exact fun G' ι' H' gr rh' C' hC' => ⟨x, C', hC', rfl, rfl, p G' ι' H' (gr1.trans gr) rh'⟩
      | bad => rw [e] at p; exact p
    refine wpAny_call (make_map (f := f) I.kIn MX.makes MX.init (beq_iff_eq.mp MX.fn) (codeAny_mono (ok'.run _ X.stack _ _ ⟨Value.ref (s.heap.objs.size + 1) :: us, []⟩ (Value.ref (s.heap.objs.size + 1) :: (us ++ ds)) _ _ _ (hr.make C us []) (guards_make c.gd)
      (I2.env0.make C us []) (hbX _ (Value.ref (s.heap.objs.size + 1) :: us) I2.kIn hl) r2 hsp) fun r s' hq' => ?_))
    cases r with
    | error e => exact c.tk e s' (XE.of_call I2 (fun _ _ _ z => z) hq')
    | ok fl =>
      cases fl with
      | ret u =>
        obtain ⟨v, H', I3, rv, ev, q3⟩ := I2.after hq'
        subst ev
        exact ⟨rv, ⟨V.ref (s.heap.objs.size + 1), H', I3, rfl, q3⟩⟩
      | next => exact False.elim hq'
      | brk => exact False.elim hq'
      | cont => exact False.elim hq'
  · rw [if_neg hlen] at p; exact p.elim
theorem run_mkD {j : Nat} {c0 : Nat} {C f : Addr} {F : FD} (M : Mk g.K C f) (hC : g.ca c0 = some C) (fa : FA g j f F) {X : Cx} (c : At g N sc k X W) (hr : Room (j + 1) X.A) {pins : List (Addr × Obj)} {s : Shared} {Q : VK} {us : List Value} {vs : List V} {as : List D} (I : Inv X pins σ H s) (r : Vals vs us)
    (ra : RepL g.w g.K g.ca G ι as vs) (rh : RH g.w g.K g.ca G ι H h) (p : PostR g W σ (RpE g) G ι (mkD c0 F as h) Q) : wpAny (model X.prog X.w) X.A (call (.ref C) us) (EP X pins σ Q) X.xe s := by
  refine run_mk M hC fa c hr I r ra rh (fin := fun h2 => match h2.get h.length with
    | some (.ins c' fs) => fin1 h.length (.ins c' fs) (h2.set h.length none)
    | _ => .bad) (fun x G' ι' H' h' gr rh' hx p => ?_) ?_
  · cases hl : h'.get h.length with
    | none => simp only [hl] at p; exact p.elim
    | some mo =>
      simp only [hl] at p
      cases mo with
      | lst _ => exact p.elim
      | dct _ => exact p.elim
      | ins c' fs =>
        obtain ⟨a, u, e1, hi, _, hu, ro⟩ := rh'.loc hl (.loc hx)
        cases e1
        cases ro with
        | ins hC' rf =>
          obtain ⟨gr2, rh2⟩ := rh'.freeze hl hi hu
          exact fin1_post rh.len (gr.trans gr2) rh2 (.ins hC' (show upd G'.f x _ x = some _ from upd_same) (rf.mono gr2.s gr2.p)) p
  · unfold mkD at p
    exact p
theorem run_mkL {j : Nat} {c0 : Nat} {C f : Addr} {F : FD} (M : Mk g.K C f) (hC : g.ca c0 = some C) (fa : FA g j f F) {X : Cx} (c : At g N sc k X W) (hr : Room (j + 1) X.A) {pins : List (Addr × Obj)} {s : Shared} {Q : VK} {us : List Value} {vs : List V} {as : List D} (I : Inv X pins σ H s) (r : Vals vs us)
    (ra : RepL g.w g.K g.ca G ι as vs) (rh : RH g.w g.K g.ca G ι H h) (p : PostR g W σ (RpE g) G ι (mkL c0 F as h) Q) : wpAny (model X.prog X.w) X.A (call (.ref C) us) (EP X pins σ Q) X.xe s := by
  refine run_mk M hC fa c hr I r ra rh (fin := fun h2 => .ok (.loc h.length) h2) (fun x G' ι' H' h' gr rh' hx p => p G' ι' H' _ gr rh' (.loc hx)) ?_
  unfold mkL at p
  exact p
/-- how a class's call is worth F -/
structure MK (g : GX) (j : Nat) (x : Str) (F : FD) : Prop where
  ex : ∃ C, g.mg x = some (.ref C) ∧ PySem.W.keepIn g.K (.ref C) = true ∧ ∀ {N : List Str} {sc : SC} {k : Nat} {W : XW} {σ : St} {G : GP} {ι : List Addr} {H : Hp} {h : Hm} {X : Cx} (_ : At g N sc k X W) (_ : Room (j + 1) X.A) {pins : List (Addr × Obj)} {s : Shared} {Q : VK} {us : List Value} {vs : List V} {as : List D} (_ : Inv X pins σ H s) (_ : Vals vs us)
    (_ : RepL g.w g.K g.ca G ι as vs) (_ : RH g.w g.K g.ca G ι H h) (_ : PostR g W σ (RpE g) G ι (F as h) Q), wpAny (model X.prog X.w) X.A (call (.ref C) us) (EP X pins σ Q) X.xe s
theorem MK.ofD {j c0 : Nat} {x : Str} {C f : Addr} {F : FD} (hm : g.mg x = some (.ref C)) (M : Mk g.K C f) (hC : g.ca c0 = some C) (fa : FA g j f F) : MK g j x (mkD c0 F) := ⟨⟨C, hm, M.kp, by intro N sc k W σ G ι H h X c hr pins s Q us vs as I r ra rh p; exact run_mkD M hC fa c hr I r ra rh p⟩⟩
theorem MK.ofL {j c0 : Nat} {x : Str} {C f : Addr} {F : FD} (hm : g.mg x = some (.ref C)) (M : Mk g.K C f) (hC : g.ca c0 = some C) (fa : FA g j f F) : MK g j x (mkL c0 F) := ⟨⟨C, hm, M.kp, by intro N sc k W σ G ι H h X c hr pins s Q us vs as I r ra rh p; exact run_mkL M hC fa c hr I r ra rh p⟩⟩
theorem se_make {x : Str} {p pos : Pos} {e : Expr} {es : List Expr} {F : FD} {ma : MA} {j : Nat} (mk : MK g j x F) (ha : SA g N sc k (e :: es) ma) (hj : j + 1 ≤ k := by decide)
    (hs : notStar e = true := by rfl) (hpl : ∀ env, (backTo pos (starEach es env)).any (·.1) = false := by intro _; rfl) (hg : sc.names.lookup x = some .globalImplicit := by rfl) (hdb : (x == ("__debug__" : Str)) = false := by decide) :
    SE g N sc k (.Call (.Name x p) (e :: es) [] pos) (mL F ma) := fun X W c => by
  obtain ⟨C, hm, hk, run⟩ := mk.ex
  refine ⟨fun pins s σ H Q I q => ?_⟩
  obtain ⟨G, ι, ev, h, rs, rh, pp⟩ := q
  refine wpAny_Call_Name_kw (ld_glob I (c.gl hg) (by rw [c.em]; exact hm) ?_ hdb)
  refine PySem.W.callWith_K (h₀ := X.base) I.ok.mod.kin (by rw [c.eK]; exact hk) (thn ((ha X W c).run pos pins s σ H _ I (tA_go rs rh pp fun v h1 G1 ι1 H1 x _ gr rh1 rs1 rx p1 => (⟨G1, ι1, v, h1, rh1, rx, p1⟩ : (fun (x : List V) (H1 : Hp) => ∃ G1 ι1 v h1, RH g.w g.K g.ca G1 ι1 H1 h1 ∧ RepL g.w g.K g.ca G1 ι1 v x ∧ PostR g W σ (RpE g) G1 ι1 (F v h1) Q) x H1))) fun us s1 hh => ?_) (star_no hs) (hpl _)
  obtain ⟨vs, H1, I1, r, G1, ι1, v, h1, rh1, rx, p1⟩ := hh
  exact ⟨I1.kIn, run c (c.room.mono hj) I1 r rx rh1 p1⟩

/-! ### raise X('..') -/
def sRaise (c : Nat) : MS := fun e h => .ex c e h
structure XF (g : GX) (x : Str) (c : Nat) : Prop where
  ex : ∃ C, g.mg x = some (.ref C) ∧ g.ca c = some C ∧ PySem.W.excIn g.K C [.type "ValueError", .type "Exception", .type "BaseException", .type "object"] "ValueError.__new__" = true ∧ PySem.W.keepIn g.K (.ref C) = true ∧
    PySem.W.subIn g.K (.ref C) (.type "BaseException") = some true ∧ PySem.W.typeIn g.K (.ref C) = some (.type "type")
theorem ss_raise {x m : Str} {c0 j : Nat} {p p2 pos pos2 : Pos} (xf : XF g x c0) (hg : sc.names.lookup x = some .globalImplicit := by rfl) (hdb : (x == ("__debug__" : Str)) = false := by decide) : SS g N sc k (.Raise (some (.Call (.Name x p) [.Constant (.str m) j p2] [] pos)) none pos2) (sRaise c0) := fun X W c => by
  obtain ⟨C, hm, hC, h1, h2, h3, h4⟩ := xf.ex
  refine (ps_raise c.calm c.tk (pmk_own (C := C) PySem.F.excBase_ValueError (by rw [c.eK]; exact h1) (by rw [c.em]; exact hm) (by rw [c.eK]; exact h2) (raises_own (by rw [c.eK]; exact h3) (by rw [c.eK]; exact h4)) (c.gl hg) hdb)).imp fun D σ H q => ?_
  obtain ⟨G, ι, e, h, rs, rh, pp⟩ := q
  exact ⟨c0, C, hC, rfl, rfl, pp G ι H σ Gr.refl rh rs⟩

/-! ### methods of built-in values -/
def TyW (X : Cx) (T : String) (x : V) (H : Hp) : Prop := ∀ (pins : List (Addr × Obj)) (s : Shared) (σ : St) (v : Value), Inv X pins σ H s → RelV x v → s.TypeIs v T ∧ ∀ a, v = .ref a → ∃ ob, s.heap.get? a = some ob ∧ ob.dict = none
theorem tyW_list {X : Cx} {H : Hp} {a : Addr} {xs : List V} (h : SqL X.K H a xs) : TyW X "list" (.ref a) H := fun pins s σ v I r => tyV_is I r (show tyV X.K "list" (.ref a) H from .inl ⟨rfl, xs, h⟩)
theorem tyW_str {X : Cx} {H : Hp} {z : Str} : TyW X "str" (.str z) H := fun pins s σ v I r => tyV_is I r (show tyV X.K "str" (.str z) H from rfl)
theorem tyW_dict {X : Cx} {H : Hp} {a : Addr} {es : List DictEntry} (h : H a = some (.ext (dictφ a es))) : TyW X "dict" (.ref a) H := fun pins s σ v I r => by
  cases r
  obtain ⟨⟨o, ep, e, ex, hd⟩, _⟩ := I.hok a _ h
  refine ⟨⟨o, e, ex.1⟩, fun b eb => ?_⟩
  cases eb
  exact ⟨o, e, ex.2.1⟩
/-- a method's worth: the receiver, the arguments -/
abbrev FM := D → List D → Hm → Res D
/-- the receiver is of that type, and stays so while the arguments are read -/
def OkT (g : GX) (T : String) (isT : Hm → D → Bool) : Prop := ∀ (X : Cx), X.K = g.K → ∀ G ι H h d v, RH g.w g.K g.ca G ι H h → Rep g.w g.K g.ca G ι d v → isT h d = true → TyW X T v H
def OkM (g : GX) (r : V → List V → Hp → VK → Prop) (F : FM) : Prop :=
  ∀ W σ G ι H h d as v xs Q, RH g.w g.K g.ca G ι H h → Rep g.w g.K g.ca G ι d v → RepL g.w g.K g.ca G ι as xs → PostR g W σ (RpE g) G ι (F d as h) Q → r v xs H Q
def isListD (h : Hm) (d : D) : Bool := (rdL h d).isSome
theorem okT_list : OkT g "list" isListD := fun X eK G ι H h d v rh r e => by
  obtain ⟨xs, e⟩ := Option.isSome_iff_exists.mp e
  obtain ⟨a, ys, rfl, hs, _⟩ := rdL_ok rh r e
  exact tyW_list (by rw [eK]; exact hs)
def isStrD (_ : Hm) : D → Bool
  | .str _ => true
  | _ => false
theorem okT_str : OkT g "str" isStrD := fun X eK G ι H h d v rh r e => by
  cases r with
  | str s => exact tyW_str
  | _ => cases e
def mBM (isT : Hm → D → Bool) (F : FM) (o : ME) (ma : MA) : ME := fun e h => (o e h).bind fun d h1 => if isT h1 d = true then (ma e h1).bind fun as h2 => F d as h2 else .bad
section
variable {o e : Expr} {es : List Expr} {name : Str} {apos cpos : Pos} {T id : String} {isT : Hm → D → Bool} {F : FM} {mo : ME} {ma : MA}
theorem se_bm (pa : PlainAttrs T) (slot : Slot T name id) (hty : typeOf (.builtin id) = pure (.type "method_descriptor")) (hT : OkT g T isT) (hm : ∀ X W, At g N sc k X W → ∃ r, MtR X id r ∧ OkM g r F) (ho : SE g N sc k o mo) (ha : SA g N sc k (e :: es) ma)
    (hbase : ∀ env, attributeBase o name env (eval o env) = eval o env := by intro _; rfl)
    (hfew : ∀ env, ((backTo cpos (starEach (e :: es) env)).all (fun x => !x.1) && (backToKw cpos (keywordEach [] env)).all (fun x => x.1.isSome)
      && decide ((e :: es).length + ([] : List Keyword).length + (if ([] : List Keyword).isEmpty then 0 else 1) < 30)) = true := by intro _; rfl)
    (hline : (apos.endLine == cpos.line) = true := by rfl) (hs : notStar e = true := by rfl) (hplain : ∀ env, (backTo cpos (starEach es env)).any (·.1) = false := by intro _; rfl) :
    SE g N sc k (.Call (.Attribute o name apos) (e :: es) [] cpos) (mBM isT F mo ma) := fun X W c => by
  obtain ⟨r, hm, hok⟩ := hm X W c
  refine ⟨fun pins s σ H Q I q => ?_⟩
  obtain ⟨G, ι, ev, h, rs, rh, p⟩ := q
  refine wpAny_Call_method_late (hbase _) (hfew _) hline rfl (thn ((ho X W c).run pins s σ H _ I (tE_go rs rh p fun v h1 G1 ι1 H1 x _ gr rh1 rs1 rx p1 => (⟨G1, ι1, v, h1, rh1, rs1, rx, p1⟩ : (fun (x : V) (H1 : Hp) => ∃ G1 ι1 v h1, RH g.w g.K g.ca G1 ι1 H1 h1 ∧ RS g.w g.K g.ca G1 ι1 σ ev ∧ Rep g.w g.K g.ca G1 ι1 v x ∧ PostR g W σ (RpE g) G1 ι1 (if isT h1 v = true then (ma ev h1).bind fun as h2 => F v as h2 else .bad) Q) x H1))) fun u s1 hh => ?_)
  obtain ⟨y, H1, I1, ry, G1, ι1, v, h1, rh1, rs1, rx, p1⟩ := hh
  by_cases ht : isT h1 v = true
  · rw [if_pos ht] at p1
    obtain ⟨t1, t2⟩ := hT X c.eK G1 ι1 H1 h1 v y rh1 rx ht pins s1 σ u I1 ry
    refine ⟨T, id, pa, slot, hty, t1, t2, ?_⟩
    have hA := (ha X W c).run cpos pins s1 σ H1 _ I1 (tA_go rs1 rh1 p1 fun vs h2 G2 ι2 H2 x _ gr2 rh2 rs2 rx2 p2 => (⟨G2, ι2, vs, h2, rh2, rx.mono gr2.s gr2.p, rx2, p2⟩ : (fun (x : List V) (H2 : Hp) => ∃ G2 ι2 vs h2, RH g.w g.K g.ca G2 ι2 H2 h2 ∧ Rep g.w g.K g.ca G2 ι2 v y ∧ RepL g.w g.K g.ca G2 ι2 vs x ∧ PostR g W σ (RpE g) G2 ι2 (F v vs h2) Q) x H2))
    rw [star_no hs] at hA ⊢
    refine Calls.callWith_builtin (by show (false || (backTo cpos (starEach es X.env)).any (·.1)) = false; rw [hplain] <;> rfl) (Calls.evalArgs_plain ?_)
    refine thn hA fun us s2 ⟨vs, H2, I2, r2, G2, ι2, as, h2, rh2, rv, ra, p2⟩ => hm pins s2 σ H2 y vs u us Q I2 ry r2 (hok W σ G2 ι2 H2 h2 v as y vs Q rh2 rv ra p2)
  · rw [if_neg ht] at p1; exact p1.elim
theorem se_bm0 (pa : PlainAttrs T) (slot : Slot T name id) (hty : typeOf (.builtin id) = pure (.type "method_descriptor")) (hT : OkT g T isT) (hm : ∀ X W, At g N sc k X W → ∃ r, MtR X id r ∧ OkM g r F) (ho : SE g N sc k o mo)
    (hbase : ∀ env, attributeBase o name env (eval o env) = eval o env := by intro _; rfl) (hline : (apos.endLine == cpos.line) = true := by rfl) : SE g N sc k (.Call (.Attribute o name apos) [] [] cpos) (mBM isT F mo aNil) := fun X W c => by
  obtain ⟨r, hm, hok⟩ := hm X W c
  refine ⟨fun pins s σ H Q I q => ?_⟩
  obtain ⟨G, ι, ev, h, rs, rh, p⟩ := q
  refine wpAny_Call_method0_late (hbase _) hline (thn ((ho X W c).run pins s σ H _ I (tE_go rs rh p fun v h1 G1 ι1 H1 x _ gr rh1 rs1 rx p1 => (⟨G1, ι1, v, h1, rh1, rx, p1⟩ : (fun (x : V) (H1 : Hp) => ∃ G1 ι1 v h1, RH g.w g.K g.ca G1 ι1 H1 h1 ∧ Rep g.w g.K g.ca G1 ι1 v x ∧ PostR g W σ (RpE g) G1 ι1 (if isT h1 v = true then (aNil ev h1).bind fun as h2 => F v as h2 else .bad) Q) x H1))) fun u s1 hh => ?_)
  obtain ⟨y, H1, I1, ry, G1, ι1, v, h1, rh1, rx, p1⟩ := hh
  by_cases ht : isT h1 v = true
  · rw [if_pos ht] at p1
    obtain ⟨t1, t2⟩ := hT X c.eK G1 ι1 H1 h1 v y rh1 rx ht pins s1 σ u I1 ry
    exact ⟨T, id, pa, slot, hty, t1, t2, Calls.callWith_builtin rfl (PySem.evalArgs_none (hm pins s1 σ H1 y [] u [] Q I1 ry .nil (hok W σ G1 ι1 H1 h1 v [] y [] Q rh1 rx .nil p1)))⟩
  · rw [if_neg ht] at p1; exact p1.elim
end
/-- xs.append(x), xs.extend(ys), xs.pop() -/
def fApp : FM := fun d as h => match d, as with
  | .loc l, [x] => (match h.get l with
    | some (.lst xs) => if xs.length < LIM then .ok .non (h.set l (some (.lst (xs ++ [x])))) else .bad
    | _ => .bad)
  | _, _ => .bad
def fExt : FM := fun d as h => match d, as with
  | .loc l, [.lst ys] => (match h.get l with
    | some (.lst xs) => if xs.length + ys.length ≤ LIM then .ok .non (h.set l (some (.lst (xs ++ ys)))) else .bad
    | _ => .bad)
  | _, _ => .bad
def fPop : FM := fun d as h => match d, as with
  | .loc l, [] => (match h.get l with
    | some (.lst xs) => (match xs[xs.length - 1]? with
      | some y => .ok y (h.set l (some (.lst xs.dropLast)))
      | none => .bad)
    | _ => .bad)
  | _, _ => .bad
theorem RepL.dropLast {ds : List D} {vs : List V} (r : RepL w K ca G ι ds vs) : RepL w K ca G ι ds.dropLast vs.dropLast := by
  rw [List.dropLast_eq_take, List.dropLast_eq_take, r.length]
  exact r.take _
theorem t_app : ∀ X W, At g N sc k X W → ∃ r, MtR X "list.append" r ∧ OkM g r fApp := fun X W c => ⟨rAppend, mt_append, fun W σ G ι H h d as v xs Q rh r ra p => by
  unfold fApp at p
  split at p
  · rename_i l x
    cases hl : h.get l with
    | none => simp only [hl] at p; exact p.elim
    | some mo =>
      simp only [hl] at p
      cases mo with
      | lst ys =>
        simp only at p
        split at p
        · rename_i hz
          obtain ⟨a, u, rfl, hi, _, hu, ro⟩ := rh.loc hl r
          cases ro with
          | lst rl =>
            cases ra with
            | cons r1 t1 =>
              cases t1
              exact ⟨a, _, _, rfl, rfl, hu, by rw [← rl.length, lim_eq]; exact hz, p G ι _ _ Gr.refl (rh.wr hl hi (.lst (rl.app (.cons r1 .nil)))) .non⟩
        · exact p.elim
      | dct _ => exact p.elim
      | ins _ _ => exact p.elim
  · exact p.elim⟩
theorem t_ext : ∀ X W, At g N sc k X W → ∃ r, MtR X "list.extend" r ∧ OkM g r fExt := fun X W c => ⟨rExtend, mt_extend, fun W σ G ι H h d as v xs Q rh r ra p => by
  unfold fExt at p
  split at p
  · rename_i l ys
    cases hl : h.get l with
    | none => simp only [hl] at p; exact p.elim
    | some mo =>
      simp only [hl] at p
      cases mo with
      | lst zs =>
        simp only at p
        split at p
        · rename_i hz
          obtain ⟨a, u, rfl, hi, _, hu, ro⟩ := rh.loc hl r
          cases ro with
          | lst rl =>
            cases ra with
            | cons r1 t1 =>
              cases t1
              cases r1 with
              | lst q2 rl2 =>
                exact ⟨a, _, _, _, rfl, rfl, hu, rh.le _ _ q2, by rw [← rl.length, ← rl2.length, lim_eq]; exact hz, p G ι _ _ Gr.refl (rh.wr hl hi (.lst (rl.app rl2))) .non⟩
        · exact p.elim
      | dct _ => exact p.elim
      | ins _ _ => exact p.elim
  · exact p.elim⟩
theorem t_pop : ∀ X W, At g N sc k X W → ∃ r, MtR X "list.pop" r ∧ OkM g r fPop := fun X W c => ⟨rPop, mt_pop, fun W σ G ι H h d as v xs Q rh r ra p => by
  unfold fPop at p
  split at p
  · rename_i l
    cases hl : h.get l with
    | none => simp only [hl] at p; exact p.elim
    | some mo =>
      simp only [hl] at p
      cases mo with
      | lst zs =>
        simp only at p
        cases ey : zs[zs.length - 1]? with
        | none => rw [ey] at p; exact p.elim
        | some y =>
          rw [ey] at p
          obtain ⟨a, u, rfl, hi, _, hu, ro⟩ := rh.loc hl r
          cases ro with
          | lst rl =>
            cases ra
            obtain ⟨z, hz, rz⟩ := rl.get' ey
            exact ⟨a, _, z, rfl, rfl, hu, by rw [← rl.length]; exact hz, p G ι _ _ Gr.refl (rh.wr hl hi (.lst rl.dropLast)) rz⟩
      | dct _ => exact p.elim
      | ins _ _ => exact p.elim
  · exact p.elim⟩
end
end MP
end L2

set_option Elab.async false
set_option linter.all false
set_option maxRecDepth 100000
set_option maxHeartbeats 2000000
namespace L2
namespace MP
open PySem PySem.Spec PyProof.Rows
/-! ### keys -/
mutual
theorem D.eqv_key : ∀ (a b : D) (ka kb : NestedKey), D.key a = some ka → D.key b = some kb → D.eqv a b = decide (ka = kb)
  | .non, b, ka, kb, h, h' => by
    cases b <;> simp [D.key] at h h' <;> (try obtain ⟨_, _, rfl⟩ := h') <;> (try subst h) <;> (try subst h') <;> simp [D.eqv]
  | .int i, b, ka, kb, h, h' => by
    cases b <;> simp [D.key] at h h' <;> (try obtain ⟨_, _, rfl⟩ := h') <;> (try subst h) <;> (try subst h') <;> simp [D.eqv, Bool.beq_eq_decide_eq]
  | .str s, b, ka, kb, h, h' => by
    cases b <;> simp [D.key] at h h' <;> (try obtain ⟨_, _, rfl⟩ := h') <;> (try subst h) <;> (try subst h') <;> simp [D.eqv, Bool.beq_eq_decide_eq]
  | .tup xs, b, ka, kb, h, h' => by
    simp only [D.key, Option.map_eq_some_iff] at h
    obtain ⟨ks, e, rfl⟩ := h
    cases b with
    | tup ys =>
      simp only [D.key, Option.map_eq_some_iff] at h'
      obtain ⟨qs, e', rfl⟩ := h'
      simp only [D.eqv]
      rw [D.eqvs_key xs ys ks qs e e']
      simp
    | _ => simp [D.key] at h' <;> (try obtain ⟨_, _, rfl⟩ := h') <;> (try subst h') <;> simp [D.eqv]
  | .bl _, _, _, _, h, _ => by simp [D.key] at h
  | .lst _, _, _, _, h, _ => by simp [D.key] at h
  | .dct _, _, _, _, h, _ => by simp [D.key] at h
  | .ins _ _, _, _, _, h, _ => by simp [D.key] at h
  | .loc _, _, _, _, h, _ => by simp [D.key] at h
  | .cls _, _, _, _, h, _ => by simp [D.key] at h
  | .exn _, _, _, _, h, _ => by simp [D.key] at h
  | .lam _ _, _, _, _, h, _ => by simp [D.key] at h
  | .scr _, _, _, _, h, _ => by simp [D.key] at h
  | .ty _, _, _, _, h, _ => by simp [D.key] at h
theorem D.eqvs_key : ∀ (a b : List D) (ka kb : List NestedKey), D.keys a = some ka → D.keys b = some kb → D.eqvs a b = decide (ka = kb)
  | [], [], ka, kb, h, h' => by
    simp [D.keys] at h h'; subst h h'; simp [D.eqvs]
  | [], y :: ys, ka, kb, h, h' => by
    simp only [D.keys] at h h'
    cases h
    split at h'
    · cases h'; simp [D.eqvs]
    · cases h'
  | x :: xs, [], ka, kb, h, h' => by
    simp only [D.keys] at h h'
    cases h'
    split at h
    · cases h; simp [D.eqvs]
    · cases h
  | x :: xs, y :: ys, ka, kb, h, h' => by
    simp only [D.keys] at h h'
    split at h
    · rename_i p1 p2 e1 e2
      cases h
      split at h'
      · rename_i q1 q2 f1 f2
        cases h'
        simp only [D.eqvs]
        rw [D.eqv_key x y p1 q1 e1 f1, D.eqvs_key xs ys p2 q2 e2 f2]
        rw [Bool.eq_iff_iff]
        simp
      · cases h'
    · cases h
end
/-- how deep a key goes -/
def kdepth (n : Nat) (d : D) : Bool := match D.key d with
  | some k => decide (k.depth ≤ n)
  | none => false
def kget : List (D × D) → D → Option D
  | [], _ => none
  | (a, v) :: r, k => if D.eqv a k = true then some v else kget r k
def kput : List (D × D) → D → D → List (D × D)
  | [], k, v => [(k, v)]
  | (a, x) :: r, k, v => if D.eqv a k = true then (a, v) :: r else (a, x) :: kput r k v
section
variable {g : GX} {N : List Str} {sc : SC} {k : Nat} {W : XW} {σ : St} {G : GP} {ι : List Addr} {H : Hp} {h : Hm} {ev : Ev} {w : World} {K : PySem.W.Frag} {ca : Nat → Option Addr}
mutual
theorem nested_of {X : Cx} {pins : List (Addr × Obj)} {s : Shared} (I : Inv X pins σ H s) (rh : RH w X.K ca G ι H h) : ∀ {d : D} {v : V} {u : Value} {k : NestedKey}, Rep w X.K ca G ι d v → RelV v u → D.key d = some k → NestedIs s.heap k u
  | _, _, u, k, .non, r, e => by simp [D.key] at e; subst e; cases r; exact .none
  | _, _, u, k, .int i, r, e => by simp [D.key] at e; subst e; obtain ⟨t, rfl⟩ := r; exact .int i t
  | _, _, u, k, .str z, r, e => by simp [D.key] at e; subst e; obtain ⟨t, rfl⟩ := r; exact .text _ t
  | _, _, u, k, .tup q rl, r, e => by
    simp only [D.key, Option.map_eq_some_iff] at e
    obtain ⟨ks, e, rfl⟩ := e
    cases r
    obtain ⟨its, rv, ⟨o, h1, h2, n, h3⟩, _⟩ := I.tuple (same_sqT rh.le q)
    exact .tup h1 h2 h3 (by simpa using nesteds_of I rh rl rv e)
  | _, _, u, k, .bl b, r, e => by simp [D.key] at e
  | _, _, u, k, .lst _ _, r, e => by simp [D.key] at e
  | _, _, u, k, .scr _, r, e => by simp [D.key] at e
  | _, _, u, k, .dct _ _ _ _, r, e => by simp [D.key] at e
  | _, _, u, k, .ins _ _ _, r, e => by simp [D.key] at e
  | _, _, u, k, .loc _, r, e => by simp [D.key] at e
  | _, _, u, k, .cls _, r, e => by simp [D.key] at e
  | _, _, u, k, .ty _, r, e => by simp [D.key] at e
theorem nesteds_of {X : Cx} {pins : List (Addr × Obj)} {s : Shared} (I : Inv X pins σ H s) (rh : RH w X.K ca G ι H h) : ∀ {d : List D} {v : List V} {u : List Value} {k : List NestedKey}, RepL w X.K ca G ι d v → Vals v u → D.keys d = some k → NestedAll s.heap k u
  | _, _, u, k, .nil, r, e => by simp [D.keys] at e; subst e; cases r; exact .nil
  | _, _, u, k, .cons a b, r, e => by
    simp only [D.keys] at e
    split at e
    · rename_i e1 e2
      cases e
      cases r with
      | cons r1 r2 => exact .cons (nested_of I rh a r1 e1) (nesteds_of I rh b r2 e2)
    · cases e
end
/-- the pairs as the library's dicts with tuple keys have them -/
inductive RX (w : World) (K : PySem.W.Frag) (ca : Nat → Option Addr) (G : GP) (ι : List Addr) : List (D × D) → List (NestedKey × Addr × Value) → Prop
  | nil : RX w K ca G ι [] []
  | cons {d e : D} {a : Addr} {vv : V} {u : Value} {k : NestedKey} {kvs : List (D × D)} {xs : List (NestedKey × Addr × Value)} : Rep w K ca G ι d (.ref a) → D.key d = some k → Rep w K ca G ι e vv → RelV vv u → RX w K ca G ι kvs xs → RX w K ca G ι ((d, e) :: kvs) ((k, a, u) :: xs)
def ent (w : World) (x : NestedKey × Addr × Value) : DictEntry := ⟨x.1.hash w, .ref x.2.1, x.2.2⟩
theorem RX.toE : ∀ {kvs : List (D × D)} {xs : List (NestedKey × Addr × Value)}, RX w K ca G ι kvs xs → RepE w K ca G ι kvs (xs.map (ent w))
  | _, _, .nil => .nil
  | _, _, .cons a b c d t => .cons a rfl b rfl c d t.toE
theorem RepE.toX : ∀ {kvs : List (D × D)} {es : List DictEntry}, RepE w K ca G ι kvs es → (∀ p ∈ kvs, isTupD p.1 = true) → ∃ xs, es = xs.map (ent w) ∧ RX w K ca G ι kvs xs
  | _, _, .nil, _ => ⟨[], rfl, .nil⟩
  | _, _, .cons (en := en) a b c d e f t, ht => by
    obtain ⟨xs, e1, e2⟩ := t.toX fun p hp => ht p (List.mem_cons_of_mem _ hp)
    have h1 := ht _ List.mem_cons_self
    cases a with
    | tup q r =>
      refine ⟨(_, _, en.val) :: xs, ?_, .cons (.tup q r) c e f e2⟩
      rw [List.map_cons, e1]
      have hk : en.key = .ref _ := b
      cases en with
      | mk hh kk vv =>
        simp only at hk d
        subst hk d
        rfl
    | _ => simp [isTupD] at h1
theorem RX.length : ∀ {kvs : List (D × D)} {xs : List (NestedKey × Addr × Value)}, RX w K ca G ι kvs xs → kvs.length = xs.length
  | _, _, .nil => rfl
  | _, _, .cons _ _ _ _ t => by simp [t.length]
theorem RX.keys : ∀ {kvs : List (D × D)} {xs : List (NestedKey × Addr × Value)}, RX w K ca G ι kvs xs → (kvs.map fun p => D.key p.1) = xs.map fun x => some x.1
  | _, _, .nil => rfl
  | _, _, .cons _ b _ _ t => by simp [t.keys, b]
theorem RX.is {X : Cx} {pins : List (Addr × Obj)} {s : Shared} (I : Inv X pins σ H s) (rh : RH w X.K ca G ι H h) : ∀ {kvs : List (D × D)} {xs : List (NestedKey × Addr × Value)}, RX w X.K ca G ι kvs xs → (∀ p ∈ kvs, ∃ k, D.key p.1 = some k ∧ k.depth ≤ 8) → ∀ x ∈ xs, (nestedKind X.prog X.w).is s.heap x.1 x.2.1
  | _, _, .nil, _ => fun x hx => by cases hx
  | _, _, .cons a b _ _ t, hd => fun x hx => by
    rcases List.mem_cons.mp hx with e | hx
    · subst e
      obtain ⟨k, e1, e2⟩ := hd _ List.mem_cons_self
      rw [b] at e1; cases e1
      exact ⟨nested_of I rh a rfl b, e2⟩
    · exact t.is I rh (fun p hp => hd p (List.mem_cons_of_mem _ hp)) x hx
theorem RX.find {d : D} {kd : NestedKey} (hk : D.key d = some kd) : ∀ {kvs : List (D × D)} {xs : List (NestedKey × Addr × Value)}, RX w K ca G ι kvs xs → (∀ e, kget kvs d = some e → ∃ p vv, atKey xs kd = some p ∧ Rep w K ca G ι e vv ∧ RelV vv p.2) ∧ (kget kvs d = none → atKey xs kd = none)
  | _, _, .nil => ⟨fun e h => (by cases h), fun _ => rfl⟩
  | _, _, .cons (d := d') (e := e') (k := k') (a := a) (u := u) a1 b c f t => by
    have ih := t.find hk
    unfold kget atKey
    rw [List.find?_cons]
    rw [D.eqv_key d' d _ _ b hk]
    by_cases e : k' = kd
    · subst e
      simp only [decide_true, if_true]
      exact ⟨fun e h => (by cases h; exact ⟨_, _, rfl, c, f⟩), fun h => (by cases h)⟩
    · simp only [decide_eq_false e, Bool.false_eq_true, if_false]
      exact ih
theorem kput_keys {d e : D} {kd : NestedKey} (hk : D.key d = some kd) : ∀ {kvs : List (D × D)}, (∀ p ∈ kvs, ∃ k, D.key p.1 = some k) → (kput kvs d e).map (fun p => D.key p.1) = if (kvs.any fun p => D.eqv p.1 d) = true then kvs.map (fun p => D.key p.1) else kvs.map (fun p => D.key p.1) ++ [some kd]
  | [], _ => by simp [kput, hk]
  | (a, x) :: r, h => by
    have ih := kput_keys (e := e) hk (kvs := r) fun p hp => h p (List.mem_cons_of_mem _ hp)
    unfold kput
    by_cases c : D.eqv a d = true
    · simp [c]
    · rw [if_neg c, List.map_cons, ih]
      have c' : D.eqv a d = false := by simpa using c
      by_cases z : (r.any fun p => D.eqv p.1 d) = true
      · rw [if_pos z, if_pos (by rw [List.any_cons, c', z]; rfl), List.map_cons]
      · rw [if_neg z, if_neg (by rw [List.any_cons, c']; simpa using z), List.map_cons, List.cons_append]
theorem kput_mem {d e : D} : ∀ {kvs : List (D × D)} {p : D × D}, p ∈ kput kvs d e → (∃ q ∈ kvs, q.1 = p.1) ∨ p.1 = d
  | [], p, h => by simp [kput] at h; exact .inr (by rw [h])
  | (a, x) :: r, p, h => by
    unfold kput at h
    split at h
    · rcases List.mem_cons.mp h with z | z
      · exact .inl ⟨(a, x), List.mem_cons_self, by rw [z]⟩
      · exact .inl ⟨p, List.mem_cons_of_mem _ z, rfl⟩
    · rcases List.mem_cons.mp h with z | z
      · exact .inl ⟨(a, x), List.mem_cons_self, by rw [z]⟩
      · rcases kput_mem z with ⟨q, hq, e1⟩ | e1
        · exact .inl ⟨q, List.mem_cons_of_mem _ hq, e1⟩
        · exact .inr e1
theorem kput_len {d e : D} : ∀ {kvs : List (D × D)}, (kput kvs d e).length ≤ kvs.length + 1
  | [] => by simp [kput]
  | (a, x) :: r => by
    unfold kput
    split
    · simp
    · simp only [List.length_cons]; have := kput_len (d := d) (e := e) (kvs := r); omega
theorem any_key {d : D} {kd : NestedKey} (hk : D.key d = some kd) : ∀ {kvs : List (D × D)}, (∀ p ∈ kvs, ∃ k, D.key p.1 = some k) → (kvs.any fun p => D.eqv p.1 d) = true ∨ some kd ∉ kvs.map (fun p => D.key p.1)
  | [], _ => .inr (by simp)
  | (a, x) :: r, h => by
    obtain ⟨ka, ha⟩ := h _ List.mem_cons_self
    have e := D.eqv_key a d ka kd ha hk
    by_cases c : ka = kd
    · exact .inl (by simp [e, c])
    · rcases any_key hk (kvs := r) fun p hp => h p (List.mem_cons_of_mem _ hp) with ih | ih
      · exact .inl (by simp [ih])
      · refine .inr ?_
        simp only [List.map_cons, List.mem_cons, not_or]
        exact ⟨fun z => c (by rw [ha] at z; exact (Option.some.inj z).symm), ih⟩
theorem dok_put {kvs : List (D × D)} {d e : D} (ok : dok kvs) (ht : isTupD d = true) (hd : kdepth 8 d = true) (hl : kvs.length < LIM) : dok (kput kvs d e) := by
  unfold kdepth at hd
  cases hk : D.key d with
  | none => rw [hk] at hd; cases hd
  | some kd =>
    rw [hk] at hd
    have hd := of_decide_eq_true hd
    have hks : ∀ p ∈ kvs, ∃ k, D.key p.1 = some k := fun p hp => let ⟨k, h1, _⟩ := (ok.2.2 p hp).2; ⟨k, h1⟩
    refine ⟨?_, Nat.le_trans kput_len (by unfold LIM at hl; omega), fun p hp => ?_⟩
    · rw [kput_keys hk hks]
      split
      · exact ok.1
      · rename_i hn
        rcases any_key hk hks with z | z
        · exact absurd z hn
        · rw [List.nodup_append]
          exact ⟨ok.1, by simp, fun a ha b hb => by simp at hb; subst hb; exact fun q => z (q ▸ ha)⟩
    · rcases kput_mem hp with ⟨q, hq, e1⟩ | e1
      · rw [← e1]; exact ok.2.2 q hq
      · rw [e1]; exact ⟨ht, kd, hk, hd⟩
theorem RX.put {d e : D} {kd : NestedKey} {a : Addr} {vv : V} {u : Value} (hk : D.key d = some kd) (rd : Rep w K ca G ι d (.ref a)) (re : Rep w K ca G ι e vv) (ru : RelV vv u) : ∀ {kvs : List (D × D)} {xs : List (NestedKey × Addr × Value)}, RX w K ca G ι kvs xs → (kvs.map fun p => D.key p.1).Nodup → RX w K ca G ι (kput kvs d e) (storedH xs kd a u)
  | _, _, .nil, _ => .cons rd hk re ru .nil
  | _, _, .cons (d := d') (e := e') (k := k') (a := a') (u := u') (xs := xs) (kvs := kvs) a1 b c f t, nd => by
    have nd' : D.key d' ∉ kvs.map (fun p => D.key p.1) ∧ (kvs.map fun p => D.key p.1).Nodup := List.nodup_cons.mp nd
    have ih := RX.put hk rd re ru t nd'.2
    unfold kput
    rw [D.eqv_key d' d _ _ b hk]
    by_cases e : k' = kd
    · subst e
      simp only [decide_true, if_true]
      have h0 : atKey ((k', a', u') :: xs) k' = some (a', u') := by simp [atKey]
      have hno : ∀ x ∈ xs, x.1 ≠ k' := fun x hx z => nd'.1 (by rw [b, t.keys]; exact List.mem_map.mpr ⟨x, hx, by rw [z]⟩)
      have hmap : xs.map (putAt k' u) = xs := by
        have : ∀ l : List (NestedKey × Addr × Value), (∀ x ∈ l, x.1 ≠ k') → l.map (putAt k' u) = l := by
          intro l
          induction l with
          | nil => intro _; rfl
          | cons y l ih => intro hy; rw [List.map_cons, ih fun x hx => hy x (List.mem_cons_of_mem _ hx)]; unfold putAt; rw [if_neg (hy y List.mem_cons_self)]
        exact this xs hno
      have hst : storedH ((k', a', u') :: xs) k' a u = (k', a', u) :: xs := by
        unfold storedH
        rw [h0]
        simp only [Option.isSome_some, if_true, List.map_cons, hmap]
        simp [putAt]
      rw [hst]
      exact .cons a1 b re ru t
    · simp only [decide_eq_false e, Bool.false_eq_true, if_false]
      have h0 : atKey ((k', a', u') :: xs) kd = atKey xs kd := by simp [atKey, e]
      have hst : storedH ((k', a', u') :: xs) kd a u = (k', a', u') :: storedH xs kd a u := by
        unfold storedH
        rw [h0]
        split
        · rw [List.map_cons]; simp [putAt, e]
        · rfl
      rw [hst]
      exact .cons a1 b c f ih
end
end MP
end L2

set_option Elab.async false
set_option linter.all false
set_option maxRecDepth 100000
set_option maxHeartbeats 2000000
namespace L2
namespace MP
open PySem PySem.Spec PyProof.Rows
section
variable {g : GX} {N : List Str} {sc : SC} {k : Nat} {W : XW} {σ : St} {G : GP} {ι : List Addr} {H : Hp} {h : Hm} {ev : Ev} {w : World} {K : PySem.W.Frag} {ca : Nat → Option Addr}
/-! ### dicts -/
theorem dict_of {X : Cx} {pins : List (Addr × Obj)} {s : Shared} {a : Addr} {es : List DictEntry} (I : Inv X pins σ H s) (rd : Rd H a (.ext (dictφ a es))) : ∃ o ep, s.heap.get? a = some o ∧ o.ExactDict ∧ o.data = .dict es.toArray ep := by
  rcases rd with e | ⟨o', e⟩
  · exact (I.hok a _ e).1
  · exact (I.hok a _ e).2.1
/-- a dict, for reading -/
def rdD (h : Hm) : D → Option (List (D × D))
  | .dct kvs => some kvs
  | .loc l => match h.get l with
    | some (.dct kvs) => some kvs
    | _ => none
  | _ => none
theorem rdD_ok (rh : RH w K ca G ι H h) {d : D} {v : V} {kvs : List (D × D)} (r : Rep w K ca G ι d v) (e : rdD h d = some kvs) : ∃ a es, v = .ref a ∧ (a == sysModules) = false ∧ dok kvs ∧ Rd H a (.ext (dictφ a es)) ∧ RepE w K ca G ι kvs es := by
  cases r with
  | dct n m q r => simp [rdD] at e; subst e; exact ⟨_, _, rfl, n, m, .inr ⟨_, rh.le _ _ q⟩, r⟩
  | loc q =>
    rename_i l a
    cases hl : h.get l with
    | none => simp [rdD, hl] at e
    | some mo =>
      cases mo with
      | dct xs =>
        simp [rdD, hl] at e
        subst e
        obtain ⟨a2, u, e2, _, _, hu, ro⟩ := rh.loc hl (.loc q)
        cases e2
        cases ro with
        | dct n m rl => exact ⟨_, _, rfl, n, m, .inl hu, rl⟩
      | lst _ => simp [rdD, hl] at e
      | ins _ _ => simp [rdD, hl] at e
  | _ => simp [rdD] at e
theorem dok.dep {kvs : List (D × D)} (m : dok kvs) : ∀ p ∈ kvs, ∃ k, D.key p.1 = some k ∧ k.depth ≤ 8 := fun p hp => (m.2.2 p hp).2
theorem dok.tup {kvs : List (D × D)} (m : dok kvs) : ∀ p ∈ kvs, isTupD p.1 = true := fun p hp => (m.2.2 p hp).1
theorem dictH_of {X : Cx} {pins : List (Addr × Obj)} {s : Shared} {a : Addr} {es : List DictEntry} {kvs : List (D × D)} (I : Inv X pins σ H s) (rh : RH X.w X.K ca G ι H h) (m : dok kvs) (rd : Rd H a (.ext (dictφ a es))) (re : RepE X.w X.K ca G ι kvs es) :
    ∃ xs, s.heap.DictOfH (nestedKind X.prog X.w) a xs ∧ RX X.w X.K ca G ι kvs xs := by
  obtain ⟨o, ep, h1, h2, h3⟩ := dict_of I rd
  obtain ⟨xs, e, rx⟩ := re.toX m.tup
  refine ⟨xs, ⟨o, es.toArray, ep, h1, h2, h3, by rw [List.toList_toArray, e]; rfl, rx.is I rh m.dep, ?_⟩, rx⟩
  have nd := m.1
  rw [rx.keys] at nd
  have : xs.map (fun x => some x.1) = (xs.map (·.1)).map some := by simp
  rw [this] at nd
  exact List.Pairwise.of_map some (fun a b hne z => hne (by rw [z])) nd
theorem key_ref {d : D} {v : V} (ht : isTupD d = true) (r : Rep w K ca G ι d v) : ∃ a, v = .ref a := by
  cases r with
  | tup q r => exact ⟨_, rfl⟩
  | _ => simp [isTupD] at ht
theorem kdepth_ok {d : D} (e : kdepth 8 d = true) : ∃ kd, D.key d = some kd ∧ kd.depth ≤ 8 := by
  unfold kdepth at e
  cases hk : D.key d with
  | none => rw [hk] at e; cases e
  | some kd => rw [hk] at e; exact ⟨kd, rfl, of_decide_eq_true e⟩
theorem nested_room {X : Cx} (hu : X.A.units + 64 < cLine) : (nestedKind X.prog X.w).room X.A.in1 := by
  show X.A.in1.units + 8 < cLine
  have : X.A.in1.units ≤ X.A.units + 1 := by
    show X.A.units + 1 ≤ X.A.units + 1
    exact Nat.le_refl _
  omega
structure KIn (X : Cx) (x y : V) (H : Hp) (r : Bool) : Prop where
  ex : ∃ ca G ι h d c kvs, RH X.w X.K ca G ι H h ∧ Rep X.w X.K ca G ι d x ∧ Rep X.w X.K ca G ι c y ∧ rdD h c = some kvs ∧ isTupD d = true ∧ kdepth 8 d = true ∧ r = (kget kvs d).isSome
theorem isSome_find {d : D} {kd : NestedKey} {kvs : List (D × D)} {xs : List (NestedKey × Addr × Value)} (rx : RX w K ca G ι kvs xs) (hk : D.key d = some kd) : (atKey xs kd).isSome = (kget kvs d).isSome := by
  obtain ⟨h1, h2⟩ := rx.find hk
  cases e : kget kvs d with
  | none => rw [h2 e]; rfl
  | some v => obtain ⟨p, _, e1, _⟩ := h1 v e; rw [e1]; rfl
theorem op_inK {X : Cx} (hu : X.A.units + 64 < cLine) : OpR X (compareOp .In) (fun x y H Q => ∃ r, KIn X x y H r ∧ Q (.bl r) H) := by
  intro pins s σ H x y v u Q I rx ry h
  obtain ⟨r, ⟨ca, G, ι, hm, d, c, kvs, rh, rd, rc, ec, ht, hd, er⟩, q⟩ := h
  obtain ⟨a, es, rfl, hs, m, hr, re⟩ := rdD_ok rh rc ec
  obtain ⟨b, rfl⟩ := key_ref ht rd
  obtain ⟨kd, hk, hdep⟩ := kdepth_ok hd
  obtain ⟨xs, hx, rxx⟩ := dictH_of I rh m hr re
  cases rx
  cases ry
  refine wpAny_in_heap (knd := nestedKind X.prog X.w) (k := kd) (nested_room hu) ⟨nested_of I rh rd rfl hk, hdep⟩ hs hx ⟨.bl r, H, I.tok _, ?_, q⟩
  rw [isSome_find rxx hk, ← er]; rfl
theorem op_notInK {X : Cx} (hu : X.A.units + 64 < cLine) : OpR X (compareOp .NotIn) (fun x y H Q => ∃ r, KIn X x y H r ∧ Q (.bl (!r)) H) := by
  intro pins s σ H x y v u Q I rx ry h
  obtain ⟨r, ⟨ca, G, ι, hm, d, c, kvs, rh, rd, rc, ec, ht, hd, er⟩, q⟩ := h
  obtain ⟨a, es, rfl, hs, m, hr, re⟩ := rdD_ok rh rc ec
  obtain ⟨b, rfl⟩ := key_ref ht rd
  obtain ⟨kd, hk, hdep⟩ := kdepth_ok hd
  obtain ⟨xs, hx, rxx⟩ := dictH_of I rh m hr re
  cases rx
  cases ry
  refine wpAny_notIn_heap (knd := nestedKind X.prog X.w) (k := kd) (nested_room hu) ⟨nested_of I rh rd rfl hk, hdep⟩ hs hx ⟨.bl (!r), H, I.tok _, ?_, q⟩
  rw [isSome_find rxx hk, ← er]; rfl
/-- in, not in: sequences by equality, dicts by keys, words in words -/
def fMem (neg : Bool) : D → D → Hm → Res D := fun x c h => match rdS h c with
  | some ys => if (D.plain (deref h x) 60 && D.plains ys 59) = true then .ok (.bl (neg ^^ ys.any fun y => D.eqv y (deref h x))) h else .bad
  | none => match rdD h c with
    | some kvs => if (isTupD x && kdepth 8 x) = true then .ok (.bl (neg ^^ (kget kvs x).isSome)) h else .bad
    | none => .bad
theorem plains_shaped {ds : List D} (h : D.plains ds 59 = true) : ∃ ps, D.pds ds = some ps ∧ PyData.depthAll ps ≤ 59 ∧ PyData.canLayAll0 ps = true := D.plains_pd ds 59 h
def rMemD (K : PySem.W.Frag) (neg : Bool) : R2 := fun x y H Q => ∃ d ds, Dp K H x d ∧ (Dp K H y (.list ds) ∨ Dp K H y (.tuple ds)) ∧ d.depth ≤ 60 ∧ d.canLay0 = true ∧ PyData.canLayAll0 ds = true ∧ Q (.bl (neg ^^ ds.any fun z => PyData.eqv z d)) H
theorem op_memD {X : Cx} (hu : X.A.units + 64 < cLine) : OpR X (compareOp .In) (rMemD X.K false) := by
  intro pins s σ H x y v u Q I rx ry h
  obtain ⟨d, ds, hd, he, sd, c1, c2, q⟩ := h
  have room : ∀ n : Nat, X.A.units + 1 + min n d.depth < cLine := fun n => by have := Nat.min_le_right n d.depth; omega
  obtain ⟨as, r1⟩ := Dp.reads I d x v hd rx
  rw [Bool.false_xor] at q
  rcases he with he | he
  · obtain ⟨bs, r2⟩ := Dp.reads I (.list ds) y u he ry
    exact SeqAt.in_list_reads r2 r1 c2 c1 (room _) ⟨.bl _, H, I, rfl, q⟩
  · obtain ⟨bs, r2⟩ := Dp.reads I (.tuple ds) y u he ry
    exact SeqAt.in_tuple_reads r2 r1 c2 c1 (room _) ⟨.bl _, H, I, rfl, q⟩
theorem op_notMemD {X : Cx} (hu : X.A.units + 64 < cLine) : OpR X (compareOp .NotIn) (rMemD X.K true) := by
  intro pins s σ H x y v u Q I rx ry h
  obtain ⟨d, ds, hd, he, sd, c1, c2, q⟩ := h
  have room : ∀ n : Nat, X.A.units + 1 + min n d.depth < cLine := fun n => by have := Nat.min_le_right n d.depth; omega
  obtain ⟨as, r1⟩ := Dp.reads I d x v hd rx
  rw [Bool.true_xor] at q
  rcases he with he | he
  · obtain ⟨bs, r2⟩ := Dp.reads I (.list ds) y u he ry
    exact SeqAt.notIn_list_reads r2 r1 c2 c1 (room _) ⟨.bl _, H, I, rfl, q⟩
  · obtain ⟨bs, r2⟩ := Dp.reads I (.tuple ds) y u he ry
    exact SeqAt.notIn_tuple_reads r2 r1 c2 c1 (room _) ⟨.bl _, H, I, rfl, q⟩
theorem any_eqv {d : D} {p : PyData} (hd : D.pd d = some p) : ∀ {ds : List D} {ps : List PyData}, D.pds ds = some ps → (ps.any fun z => PyData.eqv z p) = ds.any fun y => D.eqv y d
  | [], ps, h => by simp [D.pds] at h; subst h; rfl
  | x :: xs, ps, h => by
    simp only [D.pds] at h
    split at h
    · rename_i p1 p2 e1 e2
      cases h
      rw [List.any_cons, List.any_cons, D.eqv_pd x d p1 p e1 hd, any_eqv hd e2]
    · cases h
theorem rdS_dp (rh : RH w K ca G ι H h) {d : D} {v : V} {ds : List D} {ps : List PyData} (r : Rep w K ca G ι d v) (e : rdS h d = some ds) (ep : D.pds ds = some ps) : Dp K H v (.list ps) ∨ Dp K H v (.tuple ps) := by
  obtain ⟨a, xs, rfl, hs, rl⟩ := rdS_ok rh r e
  rcases hs with hs | hs
  · exact .inl (.lst hs (rl.dps rh.le ep))
  · exact .inr (.tup hs (rl.dps rh.le ep))
theorem mem_ok {X : Cx} (eK : X.K = g.K) (ew : X.w = g.w) (neg : Bool) : Ok2 g (fun x y H Q => rMemD X.K neg x y H Q ∨ ∃ r, KIn X x y H r ∧ Q (.bl (neg ^^ r)) H) (fMem neg) := fun W σ G ι H h a b x y Q rh ra rb p => by
  unfold fMem at p
  cases e : rdS h b with
  | some ys =>
    simp only [e] at p
    split at p
    · rename_i hc
      simp only [Bool.and_eq_true] at hc
      obtain ⟨p1, e1, d1, c1⟩ := D.plain_pd _ _ hc.1
      obtain ⟨ps, e2, d2, c2⟩ := D.plains_pd _ _ hc.2
      refine .inl ⟨p1, ps, by rw [eK]; exact dp_deref rh ra e1, by rw [eK]; exact rdS_dp rh rb e e2, d1, c1, c2, ?_⟩
      rw [any_eqv e1 e2]
      exact p.here rh (.bl _)
    · exact p.elim
  | none =>
    simp only [e] at p
    cases e2 : rdD h b with
    | none => simp only [e2] at p; exact p.elim
    | some kvs =>
      simp only [e2] at p
      split at p
      · rename_i hc
        simp only [Bool.and_eq_true] at hc
        refine .inr ⟨_, ⟨g.ca, G, ι, h, a, b, kvs, by rw [eK, ew]; exact rh, by rw [eK, ew]; exact ra, by rw [eK, ew]; exact rb, e2, hc.1, hc.2, rfl⟩, p.here rh (.bl _)⟩
      · exact p.elim
theorem o_in : ∀ X W, At g N sc k X W → ∃ r, OpR X (compareOp .In) r ∧ Ok2 g r (fMem false) := fun X W c => ⟨_, OpR.or (op_memD c.u64) (op_inK c.u64), fun W σ G ι H h a b x y Q rh ra rb p => (mem_ok c.eK c.ew false W σ G ι H h a b x y Q rh ra rb p).imp id fun ⟨r, h1, h2⟩ => ⟨r, h1, by rw [Bool.false_xor] at h2; exact h2⟩⟩
theorem o_notin : ∀ X W, At g N sc k X W → ∃ r, OpR X (compareOp .NotIn) r ∧ Ok2 g r (fMem true) := fun X W c => ⟨_, OpR.or (op_notMemD c.u64) (op_notInK c.u64), fun W σ G ι H h a b x y Q rh ra rb p => (mem_ok c.eK c.ew true W σ G ι H h a b x y Q rh ra rb p).imp id fun ⟨r, h1, h2⟩ => ⟨r, h1, by rw [Bool.true_xor] at h2; exact h2⟩⟩
/-- d[k] of dicts, besides sequences -/
def rIxK (X : Cx) : R2 := fun x y H Q => ∃ ca G ι h d c kvs e, RH X.w X.K ca G ι H h ∧ Rep X.w X.K ca G ι d y ∧ Rep X.w X.K ca G ι c x ∧ rdD h c = some kvs ∧ isTupD d = true ∧ kdepth 8 d = true ∧ kget kvs d = some e ∧ ∀ z, Rep X.w X.K ca G ι e z → Q z H
theorem ix_K {X : Cx} (hu : X.A.units + 64 < cLine) : IxR X (rIxK X) := by
  intro value slice pins s σ H x y v u Q I rx ry q hs
  obtain ⟨ca, G, ι, hm, d, c, kvs, e, rh, rd, rc, ec, ht, hd, eg, q⟩ := q
  obtain ⟨a, es, rfl, hsm, m, hr, re⟩ := rdD_ok rh rc ec
  obtain ⟨b, rfl⟩ := key_ref ht rd
  obtain ⟨kd, hk, hdep⟩ := kdepth_ok hd
  obtain ⟨xs, hx, rxx⟩ := dictH_of I rh m hr re
  cases rx
  cases ry
  obtain ⟨p, vv, hp, rv, rvv⟩ := (rxx.find hk).1 e eg
  exact subscriptTail_builtinR (x := p.2) hx.typeIs PySem.F.slot_dict_getitem.lookup
    (wpAny_getItem_heap (knd := nestedKind X.prog X.w) (k := kd) (nested_room hu) ⟨nested_of I rh rd rfl hk, hdep⟩ hx hp ⟨rfl, vv, H, I.tok _, rvv, q vv rv⟩) hs
def fIxD : D → D → Hm → Res D := fun c d h => match rdD h c with
  | some kvs => if (isTupD d && kdepth 8 d) = true then (match kget kvs d with | some e => .ok e h | none => .bad) else .bad
  | none => fIx c d h
theorem o_ixD : ∀ X W, At g N sc k X W → ∃ r, IxR X r ∧ Ok2 g r fIxD := fun X W c => by
  obtain ⟨r, h1, h2⟩ := o_ix (g := g) (N := N) (sc := sc) (k := k) X W c
  refine ⟨_, IxR.or (ix_K c.u64) h1, fun W σ G ι H h a b x y Q rh ra rb p => ?_⟩
  unfold fIxD at p
  cases e : rdD h a with
  | none => rw [e] at p; exact .inr (h2 W σ G ι H h a b x y Q rh ra rb p)
  | some kvs =>
    simp only [e] at p
    split at p
    · rename_i hc
      simp only [Bool.and_eq_true] at hc
      cases eg : kget kvs b with
      | none => rw [eg] at p; exact p.elim
      | some z =>
        rw [eg] at p
        exact .inl ⟨g.ca, G, ι, h, b, a, kvs, z, by rw [c.eK, c.ew]; exact rh, by rw [c.eK, c.ew]; exact rb, by rw [c.eK, c.ew]; exact ra, e, hc.1, hc.2, eg, fun z' rz => p.here rh (by rw [c.eK, c.ew] at rz; exact rz)⟩
    · exact p.elim
end
end MP
end L2

set_option Elab.async false
set_option linter.all false
set_option maxRecDepth 100000
set_option maxHeartbeats 2000000
namespace L2
namespace MP
open PySem PySem.Spec PyProof.Rows
section
variable {g : GX} {N : List Str} {sc : SC} {k : Nat} {W : XW} {σ : St} {G : GP} {ι : List Addr} {H : Hp} {h : Hm} {ev : Ev} {w : World} {K : PySem.W.Frag} {ca : Nat → Option Addr}
/-! ### {} -/
theorem dictφ_ok {P : Program} {w : World} {H : Hp} {h : Heap} {a : Addr} {es : List DictEntry} (x : ∃ o ep, h.get? a = some o ∧ o.ExactDict ∧ o.data = .dict es.toArray ep) : ObjOk P w H h a (.ext (dictφ a es)) := by
  obtain ⟨o, ep, h1, h2, h3⟩ := x
  refine ⟨⟨o, ep, h1, h2, h3⟩, ⟨o, h1⟩, fun g1 g2 ⟨o', ep', e1, e2, e3⟩ st => ⟨o', ep', st _ e1, e2, e3⟩⟩
theorem pe_dict0 {X : Cx} {pos : Pos} : PE X (.Dict [] [] pos) (fun _ H Q => ∀ p, H p = none → (p == sysModules) = false → Q (.ref p) (upd H p (.ext (dictφ p [])))) := ⟨fun pins s σ H Q I h =>
  wpAny_Dict_empty ⟨.ref s.heap.objs.size, _, I.laid (a := s.heap.objs.size) (o := .ext (dictφ s.heap.objs.size [])) (t' := s.toks) (fun _ _ q => Heap.get?_push_of_some _ q) (Nat.le_refl _) (dictφ_ok ⟨_, 0, Heap.get?_push_size _ rfl, ⟨rfl, rfl, rfl⟩, rfl⟩), rfl,
    h _ (I.hok.fresh (Nat.le_refl _)) (beq_eq_false_iff_ne.mpr (Ne.symm (Nat.ne_of_lt I.big)))⟩⟩
def mDict0 : ME := fun _ h => .ok (.loc h.length) (h ++ [some (.dct [])])
theorem dok_nil : dok [] := ⟨List.nodup_nil, by simp, fun p hp => by cases hp⟩
theorem se_dict0 {pos : Pos} : SE g N sc k (.Dict [] [] pos) mDict0 := fun X W c => pe_dict0.imp fun σ H Q q => by
  obtain ⟨G, ι, e, h, rs, rh, p⟩ := q
  intro a ha hs
  obtain ⟨gr, rh'⟩ := rh.new (mo := .dct []) ha (.dct hs dok_nil .nil)
  exact p _ _ _ _ gr rh' (.loc (by rw [← rh.len]; simp))

/-! ### o[i] = v -/
def rSetK (X : Cx) : V → V → V → Hp → (Hp → Prop) → Prop := fun o i v H Q => ∃ ca G ι h l a kvs d e, RH X.w X.K ca G ι H h ∧ h.get l = some (.dct kvs) ∧ ι[l]? = some a ∧ o = .ref a ∧ Rep X.w X.K ca G ι d i ∧ Rep X.w X.K ca G ι e v ∧ isTupD d = true ∧ kdepth 8 d = true ∧ kvs.length < LIM ∧
  ∀ es', RepE X.w X.K ca G ι (kput kvs d e) es' → Q (upd H a (.ext (dictφ a es')))
theorem set_K {X : Cx} (hu : X.A.units + 64 < cLine) : PSet X (rSetK X) := by
  intro pins s σ H o i v ov iv u Q I ro ri rv h
  obtain ⟨ca, G, ι, hm, l, a, kvs, d, e, rh, hl, hi, rfl, rd, re, ht, hd, hz, q⟩ := h
  obtain ⟨b, rfl⟩ := key_ref ht rd
  obtain ⟨kd, hk, hdep⟩ := kdepth_ok hd
  obtain ⟨a2, u2, e2, _, _, hu2, rob⟩ := rh.loc hl (.loc hi)
  cases e2
  cases rob with
  | dct hsm m rE =>
    obtain ⟨xs, hx, rx⟩ := dictH_of I rh m (.inl hu2) rE
    cases ro
    cases ri
    refine wpAny_setItem_heap (knd := nestedKind X.prog X.w) (k := kd) (hsz := by rw [← rx.length, lim_eq]; exact Nat.le_of_lt hz) (nested_room hu) ⟨nested_of I rh rd rfl hk, hdep⟩ hx fun h' hm' hs => ?_
    obtain ⟨ob, es, ep, h1, h2, h3, h4, _⟩ := hm'
    have rx' := RX.put hk rd re rv rx m.1
    have hes : es.toList = (storedH xs kd b u).map (ent X.w) := h4
    refine ⟨upd H a (.ext (dictφ a es.toList)), d_write I (by rw [hu2]; exact True.intro) hs ⟨ob, h1⟩ (dictφ_ok ⟨ob, ep, h1, h2, by simpa using h3⟩), q es.toList ?_⟩
    rw [hes]
    exact rx'.toE
/-- a place's new content -/
def fPut : D → D → D → Hm → Option Hm
  | .loc l, .int i, v, h => match h.get l with
    | some (.lst xs) => (match ixN xs.length i with
      | some j => some (h.set l (some (.lst (xs.set j v))))
      | none => none)
    | _ => none
  | .loc l, d, v, h => match h.get l with
    | some (.dct kvs) => if (isTupD d && kdepth 8 d && decide (kvs.length < LIM)) = true then some (h.set l (some (.dct (kput kvs d v)))) else none
    | _ => none
  | _, _, _, _ => none
theorem RepL.set {d : D} {v : V} (r : Rep w K ca G ι d v) : ∀ {ds : List D} {vs : List V} (j : Nat), RepL w K ca G ι ds vs → RepL w K ca G ι (ds.set j d) (vs.set j v)
  | _, _, _, .nil => .nil
  | _, _, 0, .cons _ t => .cons r t
  | _, _, j + 1, .cons a t => .cons a (RepL.set r j t)
theorem PSet.or {X : Cx} {t t' : TSet} (h : PSet X t) (h' : PSet X t') : PSet X (fun o i v H Q => t o i v H Q ∨ t' o i v H Q) := fun pins s σ H o i v ov iv u Q I a b c q => by
  rcases q with q | q
  · exact h pins s σ H o i v ov iv u Q I a b c q
  · exact h' pins s σ H o i v ov iv u Q I a b c q
def sPut (o i v : ME) : MS := fun e h => match v e h with
  | .ok d h1 => (match o e h1 with
    | .ok od h2 => (match i e h2 with
      | .ok id h3 => (match fPut od id d h3 with
        | some h4 => .nx e h4
        | none => .bad)
      | _ => .bad)
    | _ => .bad)
  | .exc c h1 => .ex c e h1
  | .bad => .bad
theorem put_ok {X : Cx} (eK : X.K = g.K) (ew : X.w = g.w) {a b v : D} {x y z : V} {h' : Hm} {Q : Hp → Prop} (rh : RH g.w g.K g.ca G ι H h) (ra : Rep g.w g.K g.ca G ι a x) (rb : Rep g.w g.K g.ca G ι b y) (rv : Rep g.w g.K g.ca G ι v z) (e : fPut a b v h = some h')
    (q : ∀ H', RH g.w g.K g.ca G ι H' h' → Q H') : rSetK X x y z H Q ∨ rSetL x y z H Q := by
  cases a with
  | loc l =>
    have dcase : (∀ i, b ≠ .int i) → (match h.get l with
        | some (.dct kvs) => if (isTupD b && kdepth 8 b && decide (kvs.length < LIM)) = true then some (h.set l (some (.dct (kput kvs b v)))) else none
        | _ => none) = some h' → rSetK X x y z H Q ∨ rSetL x y z H Q := fun _ e => by
      cases hl : h.get l with
      | none => rw [hl] at e; cases e
      | some mo =>
        rw [hl] at e
        cases mo with
        | lst _ => cases e
        | ins _ _ => cases e
        | dct kvs =>
          simp only at e
          split at e
          · rename_i hc
            simp only [Bool.and_eq_true, decide_eq_true_eq] at hc
            cases e
            obtain ⟨p, u, rfl, hi, _, hu, ro⟩ := rh.loc hl ra
            cases ro with
            | dct hs m rE =>
              refine .inl ⟨g.ca, G, ι, h, l, p, kvs, b, v, by rw [eK, ew]; exact rh, hl, hi, rfl, by rw [eK, ew]; exact rb, by rw [eK, ew]; exact rv, hc.1.1, hc.1.2, hc.2, fun es' rE' => q _ (rh.wr hl hi (.dct hs (dok_put m hc.1.1 hc.1.2 hc.2) (by rw [eK, ew] at rE'; exact rE')))⟩
          · cases e
    cases b with
    | int i =>
      simp only [fPut] at e
      cases hl : h.get l with
      | none => rw [hl] at e; cases e
      | some mo =>
        rw [hl] at e
        cases mo with
        | dct _ => cases e
        | ins _ _ => cases e
        | lst xs =>
          simp only at e
          cases hj : ixN xs.length i with
          | none => rw [hj] at e; cases e
          | some j =>
            rw [hj] at e
            cases e
            obtain ⟨p, u, rfl, hi, _, hu, ro⟩ := rh.loc hl ra
            cases ro with
            | lst rl =>
              cases rb
              exact .inr ⟨p, _, i, j, rfl, rfl, hu, by rw [← rl.length]; exact hj, q _ (rh.wr hl hi (.lst (RepL.set rv j rl)))⟩
    | _ => exact dcase (fun i z => nomatch z) (by simpa only [fPut] using e)
  | _ => cases b <;> cases e
theorem ss_put {o i v : Expr} {mo mi mv : ME} {pos pos' : Pos} (ho : SE g N sc k o mo) (hi : SE g N sc k i mi) (hv : SE g N sc k v mv) (hs : ∀ env, swapsWithSole [.Subscript o i pos'] v pos.line env = pure false := by intro _; rfl) (hw : ∀ env, swappedStores [.Subscript o i pos'] v env = pure none := by intro _; rfl)
    (ha : ∀ env v, assign (.Subscript o i pos') env v = (do
      let ov ← holding [v] (eval o env)
      let iv ← holding [v, ov] (eval i env)
      standAt pos'
      holding [v, ov, iv] (setItem ov iv v)
      release [v, ov, iv] []) := by intro _ _; rfl)
    (h1 : ∀ env, (assignEach [.Subscript o i pos'] env).map (·.2) = [assign (.Subscript o i pos') env] := by intro _; rfl) : SS g N sc k (.Assign [.Subscript o i pos'] v pos) (sPut mo mi mv) := fun X W c =>
  (ps_asg (hv X W c) (pg_sub (ho X W c) (hi X W c) (PSet.or (set_K c.u64) set_list) (ha X.env)) (hs _) (hw _) (h1 _)).imp fun D σ H q => by
    obtain ⟨G, ι, e, h, rs, rh, p⟩ := q
    refine tE_s (f := fun d h1 => match mo e h1 with
      | .ok od h2 => (match mi e h2 with
        | .ok id h3 => (match fPut od id d h3 with
          | some h4 => .nx e h4
          | none => .bad)
        | _ => .bad)
      | _ => .bad) rs rh rfl p fun d h1 G1 ι1 H1 z gr rh1 rs1 rz p1 => ?_
    refine ⟨G1, ι1, e, h1, rs1, rh1, ?_⟩
    cases eo : mo e h1 with
    | exc _ _ => rw [eo] at p1; exact p1.elim
    | bad => rw [eo] at p1; exact p1.elim
    | ok od h2 =>
      rw [eo] at p1
      intro G2 ι2 H2 x gr2 rh2 rx
      refine ⟨G2, ι2, e, h2, rs1.mono gr2.s gr2.p, rh2, ?_⟩
      simp only at p1
      cases ei : mi e h2 with
      | exc _ _ => rw [ei] at p1; exact p1.elim
      | bad => rw [ei] at p1; exact p1.elim
      | ok id h3 =>
        rw [ei] at p1
        intro G3 ι3 H3 y gr3 rh3 ry
        simp only at p1
        cases ef : fPut od id d h3 with
        | none => rw [ef] at p1; exact p1.elim
        | some h4 =>
          rw [ef] at p1
          exact put_ok c.eK c.ew rh3 (rx.mono gr3.s gr3.p) ry (rz.mono (gr2.trans gr3).s (gr2.trans gr3).p) ef fun H' rh' => p1 G3 ι3 H' σ (gr2.trans gr3) rh' (rs1.mono (gr2.trans gr3).s (gr2.trans gr3).p)

/-! ### what will not change any more -/
theorem pe_frz {X : Cx} {e : Expr} {t : TE} (h : PE X e t) : PE X e (fun σ H Q => t σ H fun v H1 => Q v H1 ∨ ∃ d u, H1 d = some u ∧ Mut (some u) ∧ ∀ od, Q v (upd H1 d (.frz od u))) := by
  refine ⟨fun pins s σ H Q I hw => thn (h.run pins s σ H _ I hw) fun v s1 ⟨x, H1, I1, r, q⟩ => ?_⟩
  rcases q with q | ⟨d, u, hd, mu, q⟩
  · exact ⟨x, H1, I1, r, q⟩
  · obtain ⟨od, I2⟩ := I1.lock hd mu
    exact ⟨x, _, I2, r, q od⟩
def fFrz : D → Hm → Res D
  | .loc l, h => match h.get l with
    | some (.lst xs) => .ok (.lst xs) (h.set l none)
    | some (.dct kvs) => .ok (.dct kvs) (h.set l none)
    | some (.ins c fs) => .ok (.ins c fs) (h.set l none)
    | none => .bad
  | d, h => .ok d h
def mFrz (m : ME) : ME := m1 fFrz m
theorem freezeD (rh : RH w K ca G ι H h) {l : Nat} {a : Addr} {kvs : List (D × D)} {es : List DictEntry} (hl : h.get l = some (.dct kvs)) (hi : ι[l]? = some a) (od : Obj) : Gr G ι (G.put a (.frz od (.ext (dictφ a es)))) ι ∧ RH w K ca (G.put a (.frz od (.ext (dictφ a es)))) ι (upd H a (.frz od (.ext (dictφ a es)))) (h.set l none) := rh.freezeTo hl hi
theorem se_frz {e : Expr} {m : ME} (he : SE g N sc k e m) : SE g N sc k e (mFrz m) := fun X W c => (pe_frz (he X W c)).imp fun σ H Q q => by
  obtain ⟨G, ι, e, h, rs, rh, p⟩ := q
  refine tE_go rs rh p fun v h1 G1 ι1 H1 x _ gr rh1 rs1 rx p1 => ?_
  by_cases hv : ∃ l, v = .loc l
  · obtain ⟨l, rfl⟩ := hv
    simp only [fFrz] at p1
    cases hl : h1.get l with
    | none => rw [hl] at p1; exact p1.elim
    | some mo =>
      rw [hl] at p1
      obtain ⟨a, u, rfl, hi, _, hu, ro⟩ := rh1.loc hl rx
      cases ro with
      | lst rl =>
        obtain ⟨gr2, rh2⟩ := rh1.freeze hl hi hu
        exact .inl (p1 _ _ _ _ gr2 rh2 (.lst upd_same (rl.mono gr2.s gr2.p)))
      | ins hC rf =>
        obtain ⟨gr2, rh2⟩ := rh1.freeze hl hi hu
        exact .inl (p1 _ _ _ _ gr2 rh2 (.ins hC upd_same (rf.mono gr2.s gr2.p)))
      | dct hs m rE =>
        refine .inr ⟨a, _, hu, True.intro, fun od => ?_⟩
        obtain ⟨gr2, rh2⟩ := freezeD rh1 hl hi od
        exact p1 _ _ _ _ gr2 rh2 (.dct hs m upd_same (rE.mono gr2.s gr2.p))
  · have p2 : PostR g W σ (RpE g) G1 ι1 (.ok v h1) Q := by
      have e : fFrz v h1 = .ok v h1 := by cases v <;> first | rfl | exact absurd ⟨_, rfl⟩ hv
      rw [e] at p1; exact p1
    exact .inl (p2.here rh1 rx)

/-! ### walking a dict that does not change any more -/
def Itx (d : Addr) (o : Obj) (es : List DictEntry) : It :=
  ⟨fun i H => H d = some (.frz o (.ext (dictφ d es))) ∧ ∃ en q, es[i]? = some en ∧ en.key = .ref q, fun i H x H' => H' = H ∧ ∃ en q, es[i]? = some en ∧ en.key = .ref q ∧ x = .ref q, fun i H => H d = some (.frz o (.ext (dictφ d es))) ∧ es.length ≤ i⟩
theorem frzX {X : Cx} {pins : List (Addr × Obj)} {s : Shared} {d : Addr} {o : Obj} {es : List DictEntry} (I : Inv X pins σ H s) (e : H d = some (.frz o (.ext (dictφ d es)))) : s.heap.get? d = some o ∧ o.ExactDict ∧ ∃ ep, o.data = .dict es.toArray ep := by
  obtain ⟨h0, ⟨o', ep, h1, h2, h3⟩, _⟩ := I.hok d _ e
  rw [h0] at h1; cases h1
  exact ⟨h0, h2, ep, h3⟩
theorem turn_X {P : Program} {w : World} {K : PySem.W.Frag} {tg : Expr} {d : Addr} {o : Obj} {es : List DictEntry} {ep : Nat} (it : Addr) (hod : o.data = .dict es.toArray ep) : Turn P w K tg (Itx d o es) [it] it (fun i h => h.IsKeyIter it d i es.length ep) where
  mem := by simp
  obj := fun i h st b hb => by
    have e : b = it := by simpa using hb
    subst e
    obtain ⟨oi, e, c, dd⟩ := st
    exact ⟨oi, e, fun v z => by rw [dd] at z; cases z⟩
  keep := fun i h h' st k => st.at fun oi e => k it (by simp) oi e
  item := by
    intro X hP hw hK hc i pins s σ H E I hf st hg
    subst hP hw hK
    obtain ⟨hd, en, q, hen, hkey⟩ := hg
    obtain ⟨f0, f1, f2, f3, f4, f5⟩ := hf it (by simp)
    obtain ⟨hgd, hx, ep', hdt⟩ := frzX I hd
    refine next_key_item st hgd hod (by simp) (en := en) (by simpa using hen) fun h' st' sb => ?_
    have I1 : Inv X pins σ H { s with heap := h' } := I.turned (t' := s.toks) (fun b ob hb e => (sb.2 b hb).trans e) f0 f1 f3 f4 f5
    obtain ⟨oi, e, c, dd⟩ := id st'
    exact ⟨en.key, rfl, go_of (s := { s with heap := h' }) e c dd (by decide) ⟨.ref q, H, I1, hkey, ⟨rfl, en, q, hen, hkey, rfl⟩, st', fun b hb => (hf b hb).1⟩⟩
  done := by
    intro X hP hw hK hc i pins s σ H E I hf st hg
    subst hP hw hK
    obtain ⟨hd, hi⟩ := hg
    obtain ⟨f0, f1, f2, f3, f4, f5⟩ := hf it (by simp)
    obtain ⟨hgd, hx, ep', hdt⟩ := frzX I hd
    exact next_key_end (I.ok.hd hc) st hgd hod (by simp) hi fun h' eb => ⟨rfl, I.turned (t' := s.toks) (fun b ob hb e => eb b ob hb e) f0 f1 f3 f4 f5⟩
  self := fun A i s Q E st h => by
    refine wpAny_pyIter_slot st.typeIs PySem.F.slot_dict_keyiterator_iter (wpAny_call_entry PySem.F.slot_dict_keyiterator_iter st.typeIs PySem.F.entry_dict_keyiterator_iter ?_ (PySem.F.args_dict_keyiterator_iter_1 _))
    show wpAny _ _ (ret (.ref it)) _ _ s
    exact wpAny_pure ⟨_, rfl, "dict_keyiterator", _, st.typeIs, PySem.F.slot_dict_keyiterator_next.lookup, h⟩
theorem RepE.get : ∀ {kvs : List (D × D)} {es : List DictEntry} {i : Nat} {d e : D}, RepE w K ca G ι kvs es → (∀ p ∈ kvs, isTupD p.1 = true) → kvs[i]? = some (d, e) → ∃ en q, es[i]? = some en ∧ en.key = .ref q ∧ Rep w K ca G ι d (.ref q)
  | _, _, _, _, _, .nil, _, h => by simp at h
  | _, _, 0, d, e, .cons (en := en) a b _ _ _ _ _, ht, h => by
    simp at h
    obtain ⟨rfl, rfl⟩ := h
    obtain ⟨q, rfl⟩ := key_ref (ht _ List.mem_cons_self) a
    exact ⟨en, q, rfl, b, a⟩
  | _, _, i + 1, d, e, .cons _ _ _ _ _ _ t, ht, h => by
    obtain ⟨en, q, h1, h2, h3⟩ := t.get (i := i) (fun p hp => ht p (List.mem_cons_of_mem _ hp)) (by simpa using h)
    exact ⟨en, q, by simpa using h1, h2, h3⟩
theorem RepE.length : ∀ {kvs : List (D × D)} {es : List DictEntry}, RepE w K ca G ι kvs es → kvs.length = es.length
  | _, _, .nil => rfl
  | _, _, .cons _ _ _ _ _ _ t => by simp [t.length]
theorem it_dct {a : Addr} {o : Obj} {es : List DictEntry} {kvs : List (D × D)} (m : dok kvs) (hq : G.f a = some (.frz o (.ext (dictφ a es)))) (re : RepE g.w g.K g.ca G ι kvs es) : ItOk g (Itx a o es) G ι (kvs.map (·.1)) := fun G1 ι1 H1 h1 grs grp rh => by
  have hd := rh.le _ _ (grs _ _ hq)
  have r1 := re.mono grs grp
  refine ⟨⟨hd, by rw [List.length_map, r1.length]; exact Nat.le_refl _⟩, fun i d hd' => ?_⟩
  rw [List.getElem?_map, Option.map_eq_some_iff] at hd'
  obtain ⟨⟨d0, e0⟩, h2, rfl⟩ := hd'
  obtain ⟨en, q, h3, h4, h5⟩ := r1.get m.tup h2
  refine ⟨⟨hd, en, q, h3, h4⟩, fun x H2 ⟨e, en', q', h6, h7, h8⟩ => ?_⟩
  subst e h8
  rw [h3] at h6; cases h6
  rw [h4] at h7; cases h7
  exact ⟨G1, Gr.refl, rh, h5⟩
def iLTD (K : PySem.W.Frag) (tl : TE) : TI := fun σ H R => tl σ H fun x H1 => (∃ a, x = .ref a ∧ (∃ xs, SqL K H1 a xs) ∧ R (Itl K a) H1) ∨ (∃ a, x = .ref a ∧ (∃ xs, SqT K H1 a xs) ∧ R (Itt K a) H1) ∨ (∃ a o es, x = .ref a ∧ (a == sysModules) = false ∧ H1 a = some (.frz o (.ext (dictφ a es))) ∧ R (Itx a o es) H1)
theorem pi_ltd {X : Cx} {tg l : Expr} {tl : TE} (hl : PE X l tl) : PI X tg l (iLTD X.K tl) := by
  refine ⟨fun pins s σ H R I h => ?_⟩
  refine thn (hl.run pins s σ H _ I h) fun v s1 ⟨x, H1, I1, r1, q1⟩ => ?_
  rcases q1 with ⟨a, e, ⟨xs, hq⟩, q⟩ | ⟨a, e, ⟨xs, hq⟩, q⟩ | ⟨a, o, es, e, hs, hq, q⟩
  · subst e
    cases r1
    obtain ⟨its, rv, p, hz⟩ := I1.list hq
    refine wpAny_pyIter_list p.isList ?_
    refine ⟨s1.heap.objs.size, [s1.heap.objs.size], _, _, H1, rfl, I1.kept (t' := s1.toks) fun b o e => Heap.get?_push_of_some _ e, turn_list a _, ⟨_, Heap.get?_push_size _ rfl, rfl, rfl⟩, fun b hb => ?_, q⟩
    have e : b = s1.heap.objs.size := by simpa using hb
    subst e
    exact I1.fpOk (Nat.le_refl _) (I1.hok.fresh (Nat.le_refl _))
  · subst e
    cases r1
    obtain ⟨its, rv, p, hz⟩ := I1.tuple hq
    refine wpAny_pyIter_tuple (show s1.heap.IsTuple a its.toArray from p) ?_
    refine ⟨s1.heap.objs.size, [s1.heap.objs.size], _, _, H1, rfl, I1.kept (t' := s1.toks) fun b o e => Heap.get?_push_of_some _ e, turn_tuple a _, ⟨_, Heap.get?_push_size _ rfl, rfl, rfl⟩, fun b hb => ?_, q⟩
    have e : b = s1.heap.objs.size := by simpa using hb
    subst e
    exact I1.fpOk (Nat.le_refl _) (I1.hok.fresh (Nat.le_refl _))
  · subst e
    cases r1
    obtain ⟨hgd, hx, ep, hdt⟩ := frzX I1 hq
    refine iter_keys hs hgd hx hdt (pi_one (tk := s1.toks) I1 _ (turn_X _ hdt) ⟨_, Heap.get?_push_size _ rfl, rfl, ?_⟩ q)
    rw [List.size_toArray] <;> rfl
/-- a list, a tuple, a dict's keys: none to be changed any more -/
def iAny (a : ME) : MI := fun e h => (a e h).bind fun x h1 => match x with
  | .tup xs => .ok xs h1
  | .lst xs => .ok xs h1
  | .dct kvs => .ok (kvs.map (·.1)) h1
  | _ => .bad
theorem si_any {tg l : Expr} {a : ME} (ha : SE g N sc k l a) : SI g N sc k tg l (iAny a) := fun X W c => (pi_ltd (ha X W c)).imp fun σ H R q => by
  obtain ⟨G, ι, e, h, rs, rh, p⟩ := q
  refine tE_go rs rh p fun v h1 G1 ι1 H1 x _ gr rh1 rs1 rx p1 => ?_
  rw [c.eK]
  cases rx with
  | lst q r => exact .inl ⟨_, rfl, ⟨_, SqL.of (rh1.le _ _ q)⟩, p1 G1 ι1 H1 _ Gr.refl rh1 (it_lst q r)⟩
  | tup q r => exact .inr (.inl ⟨_, rfl, ⟨_, same_sqT rh1.le q⟩, p1 G1 ι1 H1 _ Gr.refl rh1 (it_tup q r)⟩)
  | dct hs m q r => exact .inr (.inr ⟨_, _, _, rfl, hs, rh1.le _ _ q, p1 G1 ι1 H1 _ Gr.refl rh1 (it_dct m q r)⟩)
  | _ => exact p1.elim

/-! ### list.index -/
def idxOf (x : D) : List D → Nat → Option Nat
  | [], _ => none
  | y :: ys, j => if D.eqv y x = true then some j else idxOf x ys (j + 1)
theorem idxOf_pd {x : D} {p : PyData} (hx : D.pd x = some p) : ∀ {ds : List D} {ps : List PyData} {j i : Nat}, D.pds ds = some ps → idxOf x ds j = some i → ∃ n z, i = j + n ∧ ps[n]? = some z ∧ PyData.eqv z p = true ∧ ∀ (m : Nat) (z' : PyData), m < n → ps[m]? = some z' → PyData.eqv z' p = false
  | [], _, _, _, _, h => by cases h
  | y :: ys, ps, j, i, hp, h => by
    simp only [D.pds] at hp
    split at hp
    · rename_i p1 p2 e1 e2
      cases hp
      unfold idxOf at h
      have ee := D.eqv_pd y x p1 p e1 hx
      by_cases c : D.eqv y x = true
      · rw [if_pos c] at h
        cases h
        exact ⟨0, p1, rfl, rfl, by rw [ee]; exact c, fun m z' hm => absurd hm (Nat.not_lt_zero m)⟩
      · rw [if_neg c] at h
        obtain ⟨n, z, h1, h2, h3, h4⟩ := idxOf_pd hx e2 h
        refine ⟨n + 1, z, by omega, by simpa using h2, h3, fun m z' hm hz => ?_⟩
        cases m with
        | zero => simp at hz; subst hz; rw [ee]; simpa using c
        | succ m => exact h4 m z' (by omega) (by simpa using hz)
    · cases hp
def fIdx : FM := fun d as h => match rdL h d, as with
  | some ys, [x] => if (D.plain (deref h x) 59 && D.plains ys 59) = true then (match idxOf (deref h x) ys 0 with
    | some i => .ok (.int (i : Nat)) h
    | none => .bad) else .bad
  | _, _ => .bad
theorem t_idx : ∀ X W, At g N sc k X W → ∃ r, MtR X "list.index" r ∧ OkM g r fIdx := fun X W c => ⟨_, mt_indexD (by have := c.room.un; omega), fun W σ G ι H h d as v xs Q rh r ra p => by
  unfold fIdx at p
  split at p
  · rename_i ys x er
    split at p
    · rename_i hc
      simp only [Bool.and_eq_true] at hc
      split at p
      · rename_i i ei
        obtain ⟨p1, e1, d1, c1⟩ := D.plain_pd _ _ hc.1
        obtain ⟨ps, e2, d2, c2⟩ := D.plains_pd _ _ hc.2
        obtain ⟨a, zs, rfl, hs, rl⟩ := rdL_ok rh r er
        cases ra with
        | cons r1 t1 =>
          cases t1
          obtain ⟨n, z, h1, h2, h3, h4⟩ := idxOf_pd e1 e2 ei
          rw [Nat.zero_add] at h1
          subst h1
          refine ⟨a, _, p1, ps, i, z, rfl, rfl, by rw [c.eK]; exact .lst hs (rl.dps rh.le e2), by rw [c.eK]; exact dp_deref rh r1 e1, ?_, ?_, h2, h3, h4, p.here rh (.int _)⟩
          · unfold SeqAt.shaped
            rw [show (PyData.list ps).canLay0 = true by simpa [PyData.canLay0] using c2, decide_eq_true (show (PyData.list ps).depth ≤ 64 by simp only [PyData.depth]; omega)]; rfl
          · unfold SeqAt.shaped
            rw [c1, decide_eq_true (by omega : p1.depth ≤ 64)]; rfl
      · exact p.elim
    · exact p.elim
  · exact p.elim⟩
end
end MP
end L2

set_option Elab.async false
set_option linter.all false
namespace L2
open PySem PySem.Spec PyProof.Rows
section
variable {P : Program} {w : World} {A : Around} {E : Value → Shared → Prop} {s : Shared}
set_option maxRecDepth 100000 in
set_option maxHeartbeats 3200000 in
theorem call_set_lstI {l : Addr} {items : Array Value} (ns : List Int) {Q : Value → Shared → Prop} (hh : A.handled = none) (hl : s.heap.IsList l items) (hit : IntsAre items.toList ns) (hb : ns.length + 1 < scanBound)
    (h : ∀ (h' : Heap) (tk c : Nat), SetR w h' s.heap.objs.size (fun j => decide (j ∈ ns)) c → c ≤ ns.length → (∀ b o, s.heap.get? b = some o → h'.get? b = some o) → Q (.ref s.heap.objs.size) { s with heap := h', toks := tk }) :
    wpAny (model P w) A (call (.type "set") [.ref l]) Q E s := by
  have hisz : items.size = ns.length := by
    have q := IntsAre.length hit
    rw [Array.length_toList] at q
    exact q
  obtain ⟨c, tl, hmro⟩ := F.called_set.mro
  have hmade := F.called_set.made
  have hsub := F.called_set.sub
  refine wpAny_call (codeAny_of_tree ?_)
  show wpAny _ _ (callAny (.type "set") _) _ _ _
  refine wpAny_pure ⟨Code.quiet_builtin _ (by decide +kernel), codeAny_builtin F.entry_type_call ?_⟩
  rw [Around.under_plain (weight_type_call_type "set" [.ref l] []) rfl]
  have h1 := F.called_set.notType
  have h2 := F.called_set.canCreate
  have hct := F.typeCall_set_1 (.ref l)
  repeat (any_goals (first | assumption | wp_step))

  refine codeAny_mono (code_set_led1 (.ref l) (E := E) (Q₁ := fun obj s₁ => obj = .ref s.heap.objs.size ∧ s₁ = { s with heap := s.heap.push { cls := .type "set", dict := none, data := .set #[] 0 (.fresh 0 0 (!w.params.followText "set-order")) } }) ⟨rfl, rfl⟩) fun r s₁ hr => ?_
  cases r with
  | error e => exact hr
  | ok fl =>
    cases fl with
    | ret obj =>
      obtain ⟨rfl, rfl⟩ := hr
      have hS : (s.heap.push { cls := .type "set", dict := none, data := .set #[] 0 (.fresh 0 0 (!w.params.followText "set-order")) }).get? s.heap.objs.size = some { cls := .type "set", dict := none, data := .set #[] 0 (.fresh 0 0 (!w.params.followText "set-order")) } := Heap.get?_push_size _ rfl
      have hT : Shared.TypeIs { s with heap := s.heap.push { cls := .type "set", dict := none, data := .set #[] 0 (.fresh 0 0 (!w.params.followText "set-order")) } } (.ref s.heap.objs.size) "set" := ⟨_, hS, rfl⟩
      have hli := F.called_set.init.lookup
      have hbi := F.called_set.init.bind (.ref s.heap.objs.size)
      repeat (any_goals (first | assumption | wp_step))

      refine codeAny_mono (codeAny_call_builtin (R := wants (fun r s₂ => r = .none ∧ ∃ h' tk c, s₂ = { s with heap := h', toks := tk } ∧ SetR w h' s.heap.objs.size (fun j => decide (j ∈ ns)) c ∧ c ≤ ns.length ∧
          (∀ b o, s.heap.get? b = some o → h'.get? b = some o)) E) F.called_set.init.plain F.entry_set_init (check_set_init_1 hT ?_)) fun r₂ s₂ hr₂ => ?_
      · obtain ⟨ol, hol, hcl, nl, hdl⟩ := hl
        obtain ⟨ocls, odict, odata, oslots⟩ := ol
        simp only at hcl hdl
        subst hcl; subst hdl
        have hol' : (s.heap.push { cls := .type "set", dict := none, data := .set #[] 0 (.fresh 0 0 (!w.params.followText "set-order")) }).get? l = some { cls := .type "list", dict := odict, data := .seq items nl, slots := oslots } := Heap.get?_push_of_some _ hol
        have hsls := F.sub_list_set
        have hslf := F.sub_list_frozenset
        have hne : (Value.type "list" == Value.type "dict") = false := by decide
        have hl1 : (s.heap.push { cls := .type "set", dict := none, data := .set #[] 0 (.fresh 0 0 (!w.params.followText "set-order")) }).IsList l items := ⟨_, hol', rfl, nl, rfl⟩
        unfold Builtin.«set.__init__» noKeywords Builtin.Frozenset.updateFrom
        generalize hPI : pyIter = PI
        wp_walk
        subst hPI

        refine wpAny_pyIter_list hl1 ?_
        refine wpAny_bind (wpAny_runValue ?_)
        have hlS : l < s.heap.objs.size := Heap.lt_size hol
        have hh3 : A.in1.in1.in1.handled = none := by simp [hh]
        have hz1 : (s.heap.push { cls := .type "set", dict := none, data := .set #[] 0 (.fresh 0 0 (!w.params.followText "set-order")) }).objs.size = s.heap.objs.size + 1 := Heap.size_push ..
        have hneI : l ≠ (s.heap.push { cls := .type "set", dict := none, data := .set #[] 0 (.fresh 0 0 (!w.params.followText "set-order")) }).objs.size := by
          rw [Heap.size_push]; exact Nat.ne_of_lt (Nat.lt_succ_of_lt hlS)
        have hSf : s.heap.objs.size ∉ [(s.heap.push { cls := .type "set", dict := none, data := .set #[] 0 (.fresh 0 0 (!w.params.followText "set-order")) }).objs.size, l] := by
          rw [Heap.size_push]; simp only [List.mem_cons, List.mem_singleton, List.not_mem_nil, or_false, not_or]
          exact ⟨Nat.ne_of_lt (Nat.lt_succ_self _), Nat.ne_of_gt hlS⟩
        have hval : ∀ (i : Nat) (v : Value), items[i]? = some v → ∃ k t, ns[i]? = some k ∧ v = .int k t := fun i v hv => by
          have hi : i < ns.length := by rw [← hisz]; exact (Array.getElem?_eq_some_iff.mp hv).1
          obtain ⟨t, e⟩ := PyProof.Rows.IntsAre.int_at hit i v (by rw [Array.getElem?_toList]; exact hv)
          refine ⟨ns[i], t, List.getElem?_eq_getElem hi, ?_⟩
          rw [e, List.getD_eq_getElem?_getD, List.getElem?_eq_getElem hi] <;> rfl
        refine set_update_ints ((Walks.list hh3 _ l hneI items).toS) s.heap.objs.size
          hSf ns hisz hb hval (items.size - 0) 0 _ (by omega) (Nat.zero_le _)
          ⟨⟨_, Heap.get?_push_size _ rfl, rfl, rfl⟩, (hl1.push _)⟩ ?hS0 ?hR
        case hS0 =>
          have hget : ((s.heap.push { cls := .type "set", dict := none, data := .set #[] 0 (.fresh 0 0 (!w.params.followText "set-order")) }).push { cls := .type "list_iterator", data := .fields #[.ref l, .int 0 0] }).get? s.heap.objs.size
              = some { cls := .type "set", dict := none, data := .set #[] 0 (.fresh 0 0 (!w.params.followText "set-order")) } := Heap.get?_push_of_some _ hS
          exact ⟨0, Nat.le_refl 0, setR_new_at hget⟩
        case hR =>
          intro s' c' hm hc' hS'
          obtain ⟨h', g2, d', tk', os'⟩ := s'
          have eg : g2 = s.gens := hm.gens
          have ed : d' = s.drawn := hm.drawn
          have eo : os' = s.os := hm.os
          subst eg; subst ed; subst eo
          show wpAny _ _ _ _ _ _
          refine wpAny_pure ?_
          show wpAny _ _ (ret Value.none) _ _ _
          rw [hisz] at hc'
          refine wpAny_pure ⟨rfl, h', tk', c', rfl, hS', hc', fun b o e => ?_⟩
          have hb0 : b < s.heap.objs.size := Heap.lt_size e
          have hb1 : b ≠ s.heap.objs.size := Nat.ne_of_lt hb0
          have hb2 : b ≠ (s.heap.push { cls := .type "set", dict := none, data := .set #[] 0 (.fresh 0 0 (!w.params.followText "set-order")) }).objs.size := by
            rw [Heap.size_push]; exact Nat.ne_of_lt (Nat.lt_succ_of_lt hb0)
          exact hm.heap b o (by simp only [List.mem_cons, List.mem_singleton, List.not_mem_nil, or_false, not_or]; exact ⟨hb1, hb2⟩) (Heap.get?_push_of_some _ (Heap.get?_push_of_some _ e))

      · cases r₂ with
        | error e => exact hr₂
        | ok fl₂ =>
          cases fl₂ with
          | ret r =>
            obtain ⟨rfl, h', tk, c', rfl, hS', hc', hk'⟩ := hr₂
            repeat (any_goals (first | assumption | wp_step))
            exact h _ _ _ hS' hc' hk'
          | _ => exact hr₂.elim
    | _ => exact hr.elim

end
end L2

set_option Elab.async false
set_option linter.all false
set_option maxRecDepth 100000
set_option maxHeartbeats 2000000
namespace L2
namespace MP
open PySem PySem.Spec PyProof.Rows
section
variable {g : GX} {N : List Str} {sc : SC} {k : Nat} {W : XW} {σ : St} {G : GP} {ι : List Addr} {H : Hp} {h : Hm} {ev : Ev} {w : World} {K : PySem.W.Frag} {ca : Nat → Option Addr}

/-! ### all([..]), any([..]) of bools -/
def bools : List D → Option (List Bool)
  | [] => some []
  | .bl b :: r => (bools r).map (b :: ·)
  | _ :: _ => none
def intsD : List D → Option (List Int)
  | [] => some []
  | .int i :: r => (intsD r).map (i :: ·)
  | _ :: _ => none
theorem bools_ok : ∀ {ds : List D} {xs : List V} {bs : List Bool}, RepL w K ca G ι ds xs → bools ds = some bs → xs = bs.map V.bl
  | _, _, bs, .nil, e => by simp [bools] at e; subst e; rfl
  | _, _, bs, .cons r t, e => by
    cases r with
    | bl b =>
      simp only [bools, Option.map_eq_some_iff] at e
      obtain ⟨cs, e1, rfl⟩ := e
      rw [bools_ok t e1]; rfl
    | _ => simp [bools] at e
theorem ints_ok : ∀ {ds : List D} {xs : List V} {bs : List Int}, RepL w K ca G ι ds xs → intsD ds = some bs → xs = bs.map V.int
  | _, _, bs, .nil, e => by simp [intsD] at e; subst e; rfl
  | _, _, bs, .cons r t, e => by
    cases r with
    | int b =>
      simp only [intsD, Option.map_eq_some_iff] at e
      obtain ⟨cs, e1, rfl⟩ := e
      rw [ints_ok t e1]; rfl
    | _ => simp [intsD] at e
def fAll : D → Hm → Res D := fun x h => match (rdL h x).bind bools with
  | some bs => .ok (.bl (bs.all id)) h
  | none => .bad
def fAny : D → Hm → Res D := fun x h => match (rdL h x).bind bools with
  | some bs => .ok (.bl (bs.any id)) h
  | none => .bad
theorem o_all : ∀ X W, At g N sc k X W → ∃ r, CallR X (.builtin "all") r ∧ OkL g r (f1 fAll) := fun X W c => ⟨_, cr_all c.calm, okL1 fun W σ G ι H h d v Q rh r p => by
  unfold fAll at p
  cases e : (rdL h d).bind bools with
  | none => rw [e] at p; exact p.elim
  | some bs =>
    rw [e] at p
    obtain ⟨xs, e1, e2⟩ := Option.bind_eq_some_iff.mp e
    obtain ⟨a, ys, rfl, hs, rl⟩ := rdL_ok rh r e1
    have := bools_ok rl e2
    subst this
    exact ⟨a, bs, rfl, by rw [c.eK]; exact hs, p.here rh (.bl _)⟩⟩
theorem o_any : ∀ X W, At g N sc k X W → ∃ r, CallR X (.builtin "any") r ∧ OkL g r (f1 fAny) := fun X W c => ⟨_, cr_any c.calm, okL1 fun W σ G ι H h d v Q rh r p => by
  unfold fAny at p
  cases e : (rdL h d).bind bools with
  | none => rw [e] at p; exact p.elim
  | some bs =>
    rw [e] at p
    obtain ⟨xs, e1, e2⟩ := Option.bind_eq_some_iff.mp e
    obtain ⟨a, ys, rfl, hs, rl⟩ := rdL_ok rh r e1
    have := bools_ok rl e2
    subst this
    exact ⟨a, bs, rfl, by rw [c.eK]; exact hs, p.here rh (.bl _)⟩⟩

/-! ### sorted of intsD -/
def insI (x : Int) : List Int → List Int
  | [] => [x]
  | y :: ys => if x ≤ y then x :: y :: ys else y :: insI x ys
def sortI : List Int → List Int
  | [] => []
  | x :: xs => insI x (sortI xs)
def insU (x : Int) : List Int → List Int
  | [] => [x]
  | y :: ys => if x < y then x :: y :: ys else if x = y then y :: ys else y :: insU x ys
def sortU : List Int → List Int
  | [] => []
  | x :: xs => insU x (sortU xs)
theorem insI_perm (x : Int) : ∀ l : List Int, (insI x l).Perm (x :: l)
  | [] => .refl _
  | y :: ys => by
    unfold insI
    split
    · exact .refl _
    · exact ((insI_perm x ys).cons y).trans (.swap x y ys)
theorem insI_sorted (x : Int) : ∀ {l : List Int}, l.Pairwise (· ≤ ·) → (insI x l).Pairwise (· ≤ ·)
  | [], _ => by simp [insI]
  | y :: ys, h => by
    obtain ⟨h1, h2⟩ := List.pairwise_cons.mp h
    unfold insI
    split
    · rename_i c
      exact List.pairwise_cons.mpr ⟨fun z hz => by
        rcases List.mem_cons.mp hz with e | hz
        · omega
        · have := h1 z hz; omega, h⟩
    · rename_i c
      refine List.pairwise_cons.mpr ⟨fun z hz => ?_, insI_sorted x h2⟩
      have hz' := (insI_perm x ys).mem_iff.mp hz
      rcases List.mem_cons.mp hz' with e | hz'
      · omega
      · exact h1 z hz'
theorem sortI_perm : ∀ l : List Int, (sortI l).Perm l
  | [] => .refl _
  | x :: xs => (insI_perm x _).trans ((sortI_perm xs).cons x)
theorem sortI_sorted : ∀ l : List Int, (sortI l).Pairwise (· ≤ ·)
  | [] => .nil
  | x :: xs => insI_sorted x (sortI_sorted xs)
theorem sortI_uniq {l m : List Int} (p : m.Perm l) (s : m.Pairwise (· ≤ ·)) : m = sortI l :=
  List.Perm.eq_of_pairwise (fun a b _ _ h1 h2 => by omega) s (sortI_sorted l) (p.trans (sortI_perm l).symm)
theorem insU_mem (x z : Int) : ∀ l : List Int, z ∈ insU x l ↔ z = x ∨ z ∈ l
  | [] => by simp [insU]
  | y :: ys => by
    unfold insU
    split
    · simp
    · split
      · rename_i e; subst e; simp
      · simp only [List.mem_cons, insU_mem x z ys]
        constructor
        · rintro (h | h | h) <;> simp [h]
        · rintro (h | h | h) <;> simp [h]
theorem insU_sorted (x : Int) : ∀ {l : List Int}, l.Pairwise (· < ·) → (insU x l).Pairwise (· < ·)
  | [], _ => by simp [insU]
  | y :: ys, h => by
    obtain ⟨h1, h2⟩ := List.pairwise_cons.mp h
    unfold insU
    split
    · rename_i c
      exact List.pairwise_cons.mpr ⟨fun z hz => by
        rcases List.mem_cons.mp hz with e | hz
        · omega
        · have := h1 z hz; omega, h⟩
    · split
      · exact h
      · rename_i c1 c2
        refine List.pairwise_cons.mpr ⟨fun z hz => ?_, insU_sorted x h2⟩
        rcases (insU_mem x z ys).mp hz with e | hz'
        · omega
        · exact h1 z hz'
theorem sortU_mem (z : Int) : ∀ l : List Int, z ∈ sortU l ↔ z ∈ l
  | [] => by simp [sortU]
  | x :: xs => by simp [sortU, insU_mem, sortU_mem z xs]
theorem sortU_sorted : ∀ l : List Int, (sortU l).Pairwise (· < ·)
  | [] => .nil
  | x :: xs => insU_sorted x (sortU_sorted xs)
theorem strict_uniq {l m : List Int} (sl : l.Pairwise (· < ·)) (sm : m.Pairwise (· < ·)) (e : ∀ z, z ∈ l ↔ z ∈ m) : l = m := by
  have nl : l.Nodup := sl.imp fun h => by omega
  have nm : m.Nodup := sm.imp fun h => by omega
  refine List.Perm.eq_of_pairwise (le := (· < ·)) (fun a b _ _ h1 h2 => by omega) sl sm ?_
  exact (List.perm_ext_iff_of_nodup nl nm).mpr e
theorem repL_of_ints : ∀ (ns : List Int), RepL w K ca G ι (ns.map .int) (ns.map .int) := repL_ints
/-- sorted(xs), xs of ints: a list that is not changed -/
def fSort : D → Hm → Res D := fun x h => match (rdS h x).bind intsD with
  | some ns => if ns.length < 64 then .ok (.lst ((sortI ns).map .int)) h else .bad
  | none => .bad
theorem cr_sortedT' {X : Cx} : CallR X (.builtin "sorted") (fun vs H Q => ∃ (a : Addr) (ns : List Int), vs = [V.ref a] ∧ SqL X.K H a (ns.map V.int) ∧ ns.length < 64 ∧ ∀ (p : Addr), H p = none → Q (.ref p) (upd H p (.lst ((sortI ns).map V.int)))) := fun pins s σ H vs us Q I r h => by
  obtain ⟨a, ns, e, hs, hl, q⟩ := h
  exact cr_sorted pins s σ H vs us Q I r ⟨a, ns, e, hs, hl, fun ns' p p1 p2 hp => by rw [sortI_uniq p1 p2]; exact q p hp⟩
theorem o_sort : ∀ X W, At g N sc k X W → ∃ r, CallR X (.builtin "sorted") r ∧ OkL g r (f1 (fun x h => match rdL h x with | some _ => fSort x h | none => .bad)) := fun X W c => ⟨_, cr_sortedT', okL1 fun W σ G ι H h d v Q rh r p => by
  cases e1 : rdL h d with
  | none => simp only [e1] at p; exact p.elim
  | some xs =>
    simp only [e1] at p
    have e3 : rdS h d = some xs := by cases d <;> first | (simp [rdL] at e1; done) | exact e1
    unfold fSort at p
    rw [e3] at p
    cases e : intsD xs with
    | none => simp only [Option.bind_some, e] at p; exact p.elim
    | some ns =>
      simp only [Option.bind_some, e] at p
      split at p
      · rename_i hl
        obtain ⟨a, ys, rfl, hs, rl⟩ := rdL_ok rh r e1
        have := ints_ok rl e
        subst this
        exact ⟨a, ns, rfl, by rw [c.eK]; exact hs, hl, new_lst rh (repL_of_ints _) p⟩
      · exact p.elim⟩
/-- sorted(set(xs)) -/
def fSortSet : D → Hm → Res D := fun x h => match (rdS h x).bind intsD with
  | some ns => if ns.length < 64 then .ok (.lst ((sortU ns).map .int)) h else .bad
  | none => .bad
def tSortSet (X : Cx) (ta : TE) : TE := fun σ H Q => ta σ H fun x H1 => ∃ (l : Addr) (ns : List Int), x = V.ref l ∧ (SqL X.K H1 l (ns.map V.int) ∨ SqT X.K H1 l (ns.map V.int)) ∧ ns.length < 64 ∧ ∀ p, H1 p = none → Q (.ref p) (upd H1 p (.lst ((sortU ns).map V.int)))
theorem pe_sortSet {X : Cx} {a : Expr} {ta : TE} {p p2 q pos : Pos} (hc : X.calm = true) (hg : Gl X "sorted") (hm : X.mg "sorted" = none) (hg2 : Gl X "set") (hm2 : X.mg "set" = none) (ha : PE X a ta)
    (na : starEach [a] X.env = (false, eval a X.env) :: starEach [] X.env := by rfl) : PE X (.Call (.Name "sorted" p) [.Call (.Name "set" p2) [a] [] q] [] pos) (tSortSet X ta) := by
  refine ⟨fun pins s σ H Q I h => ?_⟩
  refine Call_ (ld_blt I hg hm PyProof.Rows.boot_sorted ?_)
  refine PyProof.Rows.callWith_builtin1 (PyProof.Rows.args_cons ?_ rfl) rfl rfl
  refine Call_ (ld_blt I hg2 hm2 PyProof.Rows.boot_set ?_)
  refine PyProof.Rows.callWith_type1 (PyProof.Rows.args_cons (thn (ha.run pins s σ H _ I h) fun v s1 ⟨x, H1, I1, r1, q1⟩ => PyProof.Rows.args_nil ?_) na) na rfl
  obtain ⟨l, ns, rfl, hq, h1, q1⟩ := q1
  cases r1
  have fin : ∀ (h' : Heap) (tk c : Nat), SetR X.w h' s1.heap.objs.size (fun j => decide (j ∈ ns)) c → c ≤ ns.length → (∀ b o, s1.heap.get? b = some o → h'.get? b = some o) →
      wpAny (model X.prog X.w) X.A (call (.builtin "sorted") [.ref s1.heap.objs.size]) (EP X pins σ Q) X.xe { s1 with heap := h', toks := tk } := fun h' tk c hS hc' hk => by
    have I2 : Inv X pins σ H1 { s1 with heap := h', toks := tk } := I1.kept fun b o e => hk b o e
    refine sorted_set hS (I2.ok.hd hc) (by omega) fun s' p out cc ms kk gg oo hp hgt hi hs hmm hl => ?_
    have hlen : (ms.map V.int).length ≤ sizeLine := by rw [List.length_map, hl, sizeLine_eq]; omega
    have hn : H1 p = none := I2.hok.fresh hp
    have em : ms = sortU ns := strict_uniq hs (sortU_sorted ns) fun z => by rw [hmm, sortU_mem]; simp
    subst em
    have J : Inv X pins σ (upd H1 p (.lst ((sortU ns).map V.int))) { ({ s1 with heap := h', toks := tk } : Shared) with heap := s'.heap, gens := s'.gens, drawn := s'.drawn, toks := s'.toks } :=
      I2.call (ch := []) (Un.laid kk hp hn) (I2.hok.laid kk hp ⟨hlen, out.toList, cc, vals_of_ints hi, hgt⟩) (by rw [gg]; exact I2.bare) (fun _ z => nomatch z)
    have e : s' = { ({ s1 with heap := h', toks := tk } : Shared) with heap := s'.heap, gens := s'.gens, drawn := s'.drawn, toks := s'.toks } := by
      cases s'
      cases s1
      cases oo
      rfl
    rw [e]
    exact ⟨.ref p, _, J, rfl, q1 p hn⟩
  rcases hq with hq | hq
  · obtain ⟨its, r, pl, hz⟩ := I1.list hq
    refine call_set_lstI ns (I1.ok.hd hc) pl.isList (by simpa using r.ints) (by unfold scanBound; omega) fun h' tk c hS hc' hk => PyProof.Rows.args_nil (fin h' tk c hS hc' hk)
  · obtain ⟨its, r, pl, hz⟩ := I1.tuple hq
    refine call_set_tupI ns (I1.ok.hd hc) (show s1.heap.IsTuple l its.toArray from pl) (by simpa using r.ints) (by unfold scanBound; omega) fun h' tk c hS hc' hk => PyProof.Rows.args_nil (fin h' tk c hS hc' hk)
theorem se_sortSet {a : Expr} {ma : ME} {p p2 q pos : Pos} (ha : SE g N sc k a ma) (hm : g.mg "sorted" = none) (hm2 : g.mg "set" = none) (hg : sc.names.lookup ("sorted" : Str) = some .globalImplicit := by rfl) (hg2 : sc.names.lookup ("set" : Str) = some .globalImplicit := by rfl)
    (na : ∀ env, starEach [a] env = (false, eval a env) :: starEach [] env := by intro _; rfl) : SE g N sc k (.Call (.Name "sorted" p) [.Call (.Name "set" p2) [a] [] q] [] pos) (m1 fSortSet ma) := fun X W c =>
  (pe_sortSet c.calm (c.gl hg) (by rw [c.em]; exact hm) (c.gl hg2) (by rw [c.em]; exact hm2) (ha X W c) (na X.env)).imp fun σ H Q q => by
    obtain ⟨G, ι, e, h, rs, rh, p⟩ := q
    refine tE_go rs rh p fun v h1 G1 ι1 H1 x _ gr rh1 rs1 rx p1 => ?_
    unfold fSortSet at p1
    cases e1 : rdS h1 v with
    | none => rw [e1] at p1; exact p1.elim
    | some xs =>
      rw [e1] at p1
      cases e2 : intsD xs with
      | none => simp only [Option.bind_some, e2] at p1; exact p1.elim
      | some ns =>
        simp only [Option.bind_some, e2] at p1
        split at p1
        · rename_i hl
          obtain ⟨a, ys, rfl, hs, rl⟩ := rdS_ok rh1 rx e1
          have := ints_ok rl e2
          subst this
          exact ⟨a, ns, rfl, by rw [c.eK]; exact hs, hl, new_lst rh1 (repL_of_ints _) p1⟩
        · exact p1.elim

/-! ### isinstance -/
def tcOf (h : Hm) : D → Option TC
  | .non => some .nt
  | .bl _ => some (.b .bool)
  | .int _ => some (.b .int)
  | .str _ => some (.b .str)
  | .tup _ => some (.b .tuple)
  | .lst _ => some (.b .list)
  | .scr _ => some (.b .list)
  | .ins c _ => some (.c c)
  | .loc l => match h.get l with
    | some (.lst _) => some (.b .list)
    | some (.ins c _) => some (.c c)
    | _ => none
  | _ => none
def clsD : D → Option TC
  | .ty t => some (.b t)
  | .cls c => some (.c c)
  | _ => none
def tcV (ca : Nat → Option Addr) : TC → Option Value
  | .b t => some (.type t.nm)
  | .c n => (ca n).map .ref
  | .nt => some (.type "NoneType")
structure IsF (g : GX) (tbl : TC → TC → Option Bool) : Prop where
  one : ∀ t c b, tbl t c = some b → ∃ vt vc, tcV g.ca t = some vt ∧ tcV g.ca c = some vc ∧ PySem.W.kitOne g.K vt vc = some b
  ins : ∀ n C, g.ca n = some C → n < 20 → Cls g.K C ∧ PySem.W.findIn g.K (.ref C) "__class__" = some (some (.builtin "object.__class__")) ∧ PySem.W.specialIn g.K (.builtin "object.__class__") "__get__" = some (some (.builtin "getset_descriptor.__get__")) ∧
    PySem.W.takesIn g.K (.builtin "object.__class__") = some true ∧ PySem.W.mroIn g.K C (.type "object") = some true
def okTC : TC → Bool
  | .c n => decide (n < 20)
  | _ => true
def fIsi (tbl : TC → TC → Option Bool) : D → D → Hm → Res D := fun x c h => match tcOf h x, clsD c with
  | some t, some u => if okTC t = true then (match tbl t u with
    | some b => .ok (.bl b) h
    | none => .bad) else .bad
  | _, _ => .bad
theorem tyx_lst {x : V} {a : Addr} {xs : List V} (h : SqL K H a xs) : TyX K H (.ref a) (.type "list") := by
  rcases h with h | ⟨o, its, n, h1, h2, _⟩
  · rcases h with h | ⟨o, h⟩
    · exact .base (.lst h)
    · exact .base (.frz h)
  · exact .kList h1 h2
theorem tyx_tup {a : Addr} {xs : List V} (h : SqT K H a xs) : TyX K H (.ref a) (.type "tuple") := by
  rcases h with h | ⟨o, its, n, h1, h2, _⟩
  · rcases h with h | ⟨o, h⟩
    · exact .base (.tup h)
    · exact .fTuple h
  · exact .kTuple h1 h2
theorem tyx_of {tbl : TC → TC → Option Bool} (f : IsF g tbl) (rh : RH g.w g.K g.ca G ι H h) {d : D} {x : V} {t : TC} {vt : Value} (r : Rep g.w g.K g.ca G ι d x) (e : tcOf h d = some t) (ht : okTC t = true) (ev : tcV g.ca t = some vt) : TyX g.K H x vt := by
  have cIns : ∀ {a C dx : Addr} {n : Nat} {fs : List (Str × V)}, g.ca n = some C → n < 20 → H a = some (.ins C dx fs) → TyX g.K H (.ref a) (.ref C) := fun hC hn hH => by
    obtain ⟨h1, h2, h3, h4, h5⟩ := f.ins _ _ hC hn
    exact .base (.ins hH h1 h2 h3 h4 h5)
  cases r with
  | non => cases e; cases ev; exact .base .non
  | bl b => cases e; cases ev; exact .base (.bl b)
  | int i => cases e; cases ev; exact .base (.int i)
  | str s => cases e; cases ev; exact .base (.str _)
  | tup q r => cases e; cases ev; exact tyx_tup (same_sqT rh.le q)
  | lst q r => cases e; cases ev; exact .base (.lst (rh.le _ _ q))
  | scr q => cases e; cases ev; exact tyx_lst (x := .non) (same_sqL rh.le q)
  | ins hC q rf =>
    cases e
    simp only [tcV, hC, Option.map_some, Option.some.injEq] at ev
    subst ev
    exact cIns hC (of_decide_eq_true ht) (rh.le _ _ q)
  | loc q =>
    rename_i l a
    cases hl : h.get l with
    | none => simp [tcOf, hl] at e
    | some mo =>
      obtain ⟨a2, u, e2, _, _, hu, ro⟩ := rh.loc hl (.loc q)
      cases e2
      cases ro with
      | lst rl => simp [tcOf, hl] at e; subst e; cases ev; exact .base (.lst hu)
      | dct _ _ _ => simp [tcOf, hl] at e
      | ins hC rf =>
        simp [tcOf, hl] at e
        subst e
        simp only [tcV, hC, Option.map_some, Option.some.injEq] at ev
        subst ev
        exact cIns hC (of_decide_eq_true ht) hu
  | _ => simp [tcOf] at e
theorem clsV_of {d : D} {x : V} {t : TC} {vt : Value} (r : Rep w K ca G ι d x) (e : clsD d = some t) (ev : tcV ca t = some vt) : ClsV x vt := by
  cases r with
  | ty t => cases e; cases ev; exact .ty _
  | cls hC => cases e; simp only [tcV, hC, Option.map_some, Option.some.injEq] at ev; subst ev; exact .own _
  | _ => cases e
theorem o_isi {tbl : TC → TC → Option Bool} (f : IsF g tbl) : ∀ X W, At g N sc k X W → ∃ r, CallR X (.builtin "isinstance") r ∧ OkL g r (f2 (fIsi tbl)) := fun X W c => ⟨_, call_isi, okL2 fun W σ G ι H h a b x y Q rh ra rb p => by
  unfold fIsi at p
  split at p
  · rename_i t u e1 e2
    split at p
    · rename_i ht
      split at p
      · rename_i v ev
        obtain ⟨vt, vc, h1, h2, h3⟩ := f.one t u v ev
        exact ⟨x, y, vt, vc, v, rfl, clsV_of rb e2 h2, by rw [c.eK]; exact tyx_of f rh ra e1 ht h1, by rw [c.eK]; exact h3, p.here rh (.bl _)⟩
      · exact p.elim
    · exact p.elim
  · exact p.elim⟩
end
end MP
end L2

set_option Elab.async false
set_option linter.all false
set_option maxRecDepth 100000
set_option maxHeartbeats 2000000
namespace L2
namespace MP
open PySem PySem.Spec PyProof.Rows
/-! ### instance op tuple -/
theorem noR_tuple_add : typeLookup (.type "tuple") (PySem.dunderR "add") = pure none := by rw [typeLookup_type, builtinLookup_eq_fast]; kernel_rfl
theorem noFill_tuple_add : fillsNumberSlot (.type "tuple") "add" = pure false := PySem.fillsNumberSlot_seq (id := "tuple.__add__") (r := none) PySem.F.slot_tuple_add.lookup (by decide +kernel) noR_tuple_add rfl
theorem noFill_tuple_sub : fillsNumberSlot (.type "tuple") "sub" = pure false := by
  have a : typeLookup (.type "tuple") (PySem.dunder "sub") = pure none := by rw [typeLookup_type, builtinLookup_eq_fast]; kernel_rfl
  have b : typeLookup (.type "tuple") (PySem.dunderR "sub") = pure none := by rw [typeLookup_type, builtinLookup_eq_fast]; kernel_rfl
  unfold fillsNumberSlot
  simp [a, b]
theorem binop_T {prog : Program} {w : World} {A : Around} {E : Value → Shared → Prop} {s : Shared} {K : PySem.W.Frag} {x C L f : Addr} {h₀ : Heap} {m : Str → Option Value} {ox : Obj} {od : Option Obj} {op : Operator} {b : Value} {T : String} {Q : Value → Shared → Prop} (F : Fr h₀ L s.heap m) (X₀ : K.In h₀) (I : PySem.W.InstAt s.heap x ox C od)
    (hb : PySem.W.Looks (model prog w) s.heap (typeOf b) (.type T)) (hne : fillsNumberSlot (.type T) op.info.2 = pure false) (hc : PySem.W.selfFirst K C = true)
    (hs : PySem.W.findIn K (.ref C) (PySem.dunder op.info.2) = some (some (.ref f))) (hf : PySem.W.isFn K (.ref f) = true)
    (h : wpAny (model prog w) A (call (.ref f) [.ref x, b]) (PySem.W.CmpBack Q) E s) : wpAny (model prog w) A (binaryOp op (.ref x) b) Q E s := by
  have X := X₀.keeps F.keep
  obtain ⟨cd, hcd, hm⟩ := PySem.W.any_some hc
  obtain ⟨rest, hm⟩ : ∃ rest, cd.mro = .ref C :: rest := by
    cases q : cd.mro with
    | nil => rw [q] at hm; cases hm
    | cons a r => rw [q] at hm; exact ⟨r, by rw [List.head?_cons] at hm; cases (beq_iff_eq.mp hm); rfl⟩
  have ne : (Value.ref C == Value.type T) = false := rfl
  unfold binaryOp
  refine wpAny_holding (wpAny_bind ?_)
  unfold binaryOp1
  refine wpAny_bind (I.type.here (wpAny_bind (hb.here (wpAny_bind ((PySem.W.fills_K X hcd hm hs).here ?_)))))
  simp only [ne, Bool.false_eq_true, if_false]
  refine wpAny_bind (wpAny_of_eq hne ?_)
  simp only [Bool.and_false, Bool.false_eq_true, if_false, Bool.false_and]
  refine wpAny_bind (wpAny_pure ?_)
  simp only [Bool.false_eq_true, if_false]
  refine wpAny_bind (m := tryMethod (.ref x) _ b) ?_
  unfold tryMethod
  refine wpAny_bind (PySem.W.special_fn X I hs (beq_iff_eq.mp hf) (wpAny_mono h (fun v s' hv => ?_) fun _ _ e => e))
  cases v <;> first | exact hv.elim | exact wpAny_pure (wpAny_pure (wpAny_pure hv))

section
variable {g : GX} {N : List Str} {sc : SC} {k : Nat} {W : XW} {σ : St} {G : GP} {ι : List Addr} {H : Hp} {h : Hm} {ev : Ev} {w : World} {K : PySem.W.Frag} {ca : Nat → Option Addr}
/-! ### an instance's own dunder -/
/-- the def at f called where less room is left -/
theorem run_faA {j : Nat} {f : Addr} {F : FD} (fa : FA g j f F) {X : Cx} (c : At g N sc k X W) {A : Around} (hr : Room j A) (hg : A.guards = some []) {pins : List (Addr × Obj)} {s : Shared} {Q : VK} {us : List Value} {vs : List V} {as : List D} (I : Inv X pins σ H s) (e0 : Env0 X.prog X.w X.K X.mg X.base A X.stack s H) (r : Vals vs us)
    (ra : RepL g.w g.K g.ca G ι as vs) (rh : RH g.w g.K g.ca G ι H h) (p : PostR g W σ (RpE g) G ι (F as h) Q) : wpAny (model X.prog X.w) A (call (.ref f) us) (EP X pins σ Q) X.xe s := by
  obtain ⟨fd, ps, ds, dvs, dds, F0, ok, hb, hd, rd, hF⟩ := fa.ex
  rw [hF] at p
  split at p
  · rename_i hlen
    have r2 : Vals (vs ++ dvs) (us ++ ds) := r.append hd
    have ra2 : RepL g.w g.K g.ca G ι (as ++ dds) (vs ++ dvs) := ra.app (rd G ι)
    have hl : (us ++ ds).length = ps.length := by
      rw [← r2.length, ← ra2.length, List.length_append]; exact hlen
    have kin : g.K.In s.heap := by rw [← c.eK]; exact I.kIn
    have hbs := hb s us kin hl
    have ok' : FnG X.prog X.w X.K X.mg X.base (L2.CX X.prog X.w) j f fd ps (spF g F0 ps.length) := by
      rw [c.eP, c.ew, c.eK, c.em, c.eb]; exact ok
    have hsp : spF g F0 ps.length (vs ++ dvs) H Q (fun cls d H' => wx g.ca W cls d σ H') := by
      refine ⟨by rw [← ra2.length, List.length_append]; exact hlen, G, ι, as ++ dds, h, ra2, rh, ?_⟩
      cases e : F0 (as ++ dds) h with
      | ok v h1 => rw [e] at p; exact p
      | exc x h1 => rw [e] at p; exact fun G' ι' H' gr rh' C hC => ⟨x, C, hC, rfl, rfl, p G' ι' H' gr rh'⟩
      | bad => rw [e] at p; exact p
    refine wpAny_call (codeAny_mono (ok'.run A X.stack s H ⟨us, []⟩ (us ++ ds) (vs ++ dvs) Q _ hr hg e0 hbs r2 hsp) fun r s' hq => ?_)
    cases r with
    | error e => exact c.tk e s' (XE.of_call I (fun _ _ _ z => z) hq)
    | ok fl =>
      cases fl with
      | ret u => exact I.after hq
      | next => exact False.elim hq
      | brk => exact False.elim hq
      | cont => exact False.elim hq
  · exact p.elim
/-- the classes' own dunder: by classes -/
structure DU (g : GX) (j : Nat) (name : Str) (tbl : Nat → Option FD) : Prop where
  ok : ∀ c C F, tbl c = some F → g.ca c = some C → ∃ f, PySem.W.findIn g.K (.ref C) name = some (some (.ref f)) ∧ PySem.W.isFn g.K (.ref f) = true ∧ FA g j f F
theorem inst_at {X : Cx} {pins : List (Addr × Obj)} {s : Shared} {a C dx : Addr} {fs : List (Str × V)} (I : Inv X pins σ H s) (ea : H a = some (.ins C dx fs)) : ∃ ox od, PySem.W.InstAt s.heap a ox C od := by
  obtain ⟨mA, O, _, _, _, _⟩ := ins_get I.hok ea
  obtain ⟨od, J, _⟩ := O.look
  exact ⟨_, _, J⟩
/-- len(x), x an instance -/
def B63 : Int := 9223372036854775808
theorem PostR.xw {α β : Type} {g : GX} {W : XW} {σ σ' : St} {R : GP → List Addr → α → β → Prop} {G : GP} {ι : List Addr} {r : Res α} {Q : β → Hp → Prop} (p : PostR g (fun _ _ _ => False) σ' R G ι r Q) : PostR g W σ R G ι r Q := by
  cases r with
  | ok v h => exact p
  | exc c h => exact fun G' ι' H' gr rh => (p G' ι' H' gr rh).elim
  | bad => exact p
theorem PostR.nx {α β : Type} {g : GX} {W W' : XW} {σ σ' : St} {R : GP → List Addr → α → β → Prop} {G : GP} {ι : List Addr} {r : Res α} {Q : β → Hp → Prop} (p : PostR g W σ R G ι (nox r) Q) : PostR g W' σ' R G ι r Q := by
  cases r with
  | ok v h => exact p
  | exc c h => exact p.elim
  | bad => exact p
/-- a value about which something holds on the abstract side -/
def aLen (g : GX) (tbl : Nat → Option FD) : List V → Hp → VK → Prop := fun xs H Q => ∃ G ι h d x c F, xs = [x] ∧ RH g.w g.K g.ca G ι H h ∧ Rep g.w g.K g.ca G ι d x ∧ clsOf h d = some c ∧ tbl c = some F ∧
  PostR g (fun _ _ _ => False) [] (RpE g) G ι (nox (F [d] h)) fun v H' => ∃ n, v = .int n ∧ 0 ≤ n ∧ n < 2 ^ 63 ∧ Q (.int n) H'
theorem call_lenI {j : Nat} {tbl : Nat → Option FD} (du : DU g j "__len__" tbl) (hj : j + 1 ≤ k) {X : Cx} (c : At g N sc k X W) : CallR X (.builtin "len") (aLen g tbl) := fun pins s σ H xs us Q I r h => by
  obtain ⟨G, ι, h, d, x, cc, F, rfl, rh, rd, ec, et, p⟩ := h
  obtain ⟨a, C, dx, fs, fds, rfl, hC, hH, hf, rf⟩ := ins_of rh rd ec
  obtain ⟨f, h1, h2, fa⟩ := du.ok cc C F et hC
  rw [Vals.ref1 r]
  obtain ⟨ox, od, J⟩ := inst_at I hH
  obtain ⟨m, hF⟩ := I.fr
  have hr : Room (j + 1) X.A := c.room.mono hj
  refine PySem.W.len_K hF I.ok.mod.kin J (by rw [c.eK]; exact h1) (by rw [c.eK]; exact h2) (wpAny_mono (run_faA fa c (A := X.A.in1) hr.in1 c.gd I I.env0.in1 (.cons (show RelV (.ref a) (.ref a) from rfl) .nil) (.cons rd .nil) rh (PostR.nx p)) (fun v s' hv => ?_) fun _ _ e => e)
  obtain ⟨y, H', I', ry, n, ey, n0, n1, q⟩ := hv
  subst ey
  obtain ⟨t, rfl⟩ := ry
  exact ⟨⟨n0, n1⟩, .int n, H', I'.tok _, ⟨_, rfl⟩, q⟩
def fLenI (tbl : Nat → Option FD) : D → Hm → Res D := fun x h => match (clsOf h x).bind tbl with
  | some F => (nox (F [x] h)).bind fun v h1 => match v with
    | .int n => if (decide (0 ≤ n) && decide (n < B63)) = true then .ok (.int n) h1 else .bad
    | _ => .bad
  | none => fLen x h
theorem CallR.or' {X : Cx} {f : Value} {r r' : List V → Hp → VK → Prop} (h : CallR X f r) (h' : CallR X f r') : CallR X f (fun xs H Q => r xs H Q ∨ r' xs H Q) := fun pins s σ H xs us Q I rv q => by
  rcases q with q | q
  · exact h pins s σ H xs us Q I rv q
  · exact h' pins s σ H xs us Q I rv q
theorem o_lenI {j : Nat} {tbl : Nat → Option FD} (du : DU g j "__len__" tbl) (hj : j + 1 ≤ k := by decide) : ∀ X W, At g N sc k X W → ∃ r, CallR X (.builtin "len") r ∧ OkL g r (f1 (fLenI tbl)) := fun X W c => by
  obtain ⟨r, h1, h2⟩ := o_len (g := g) (N := N) (sc := sc) (k := k) X W c
  refine ⟨_, CallR.or' h1 (call_lenI du hj c), okL1 fun W σ G ι H h d v Q rh rd p => ?_⟩
  unfold fLenI at p
  cases e : (clsOf h d).bind tbl with
  | none => rw [e] at p; exact .inl (h2 W σ G ι H h [d] [v] Q rh (.cons rd .nil) p)
  | some F =>
    rw [e] at p
    obtain ⟨cc, e1, e2⟩ := Option.bind_eq_some_iff.mp e
    refine .inr ⟨G, ι, h, d, v, cc, F, rfl, rh, rd, e1, e2, ?_⟩
    simp only at p
    cases ef : F [d] h with
    | exc _ _ => rw [ef] at p; exact p.elim
    | bad => rw [ef] at p; exact p.elim
    | ok z h1 =>
      rw [ef] at p
      intro G' ι' H' x gr rh' rx
      cases rx with
      | int n =>
        have p' : PostR g W σ (RpE g) G ι (if (decide (0 ≤ n) && decide (n < B63)) = true then .ok (.int n) h1 else .bad) Q := p
        split at p'
        · rename_i hc
          simp only [Bool.and_eq_true, decide_eq_true_eq] at hc
          exact ⟨_, rfl, hc.1, by have := hc.2; unfold B63 at this; omega, p' G' ι' H' _ gr rh' (.int _)⟩
        · exact p'.elim
      | _ => exact p.elim
/-- x in y, y an instance -/
def aIn (g : GX) (tbl : Nat → Option FD) (neg : Bool) : R2 := fun x y H Q => ∃ G ι h dx dy c F, RH g.w g.K g.ca G ι H h ∧ Rep g.w g.K g.ca G ι dx x ∧ Rep g.w g.K g.ca G ι dy y ∧ clsOf h dy = some c ∧ tbl c = some F ∧
  PostR g (fun _ _ _ => False) [] (RpE g) G ι (nox (F [dy, dx] h)) fun v H' => ∃ b, v = .bl b ∧ Q (.bl (neg ^^ b)) H'
theorem run_inI {j : Nat} {tbl : Nat → Option FD} (du : DU g j "__contains__" tbl) (hj : j ≤ k) {X : Cx} (c : At g N sc k X W) {neg : Bool} {pins : List (Addr × Obj)} {s : Shared} {x y : V} {v u : Value} {Q : VK} (I : Inv X pins σ H s) (rx : RelV x v) (ry : RelV y u) (h : aIn g tbl neg x y H Q) :
    ∃ a C f ox od m, u = .ref a ∧ PySem.W.InstAt s.heap a ox C od ∧ Fr X.base X.env.locals s.heap m ∧ PySem.W.findIn X.K (.ref C) "__contains__" = some (some (.ref f)) ∧ PySem.W.isFn X.K (.ref f) = true ∧
      wpAny (model X.prog X.w) X.A (call (.ref f) [.ref a, v]) (fun r s' => ∃ b, r = .bool b ∧ EP X pins σ Q (.bool (neg ^^ b)) s') X.xe s := by
  obtain ⟨G, ι, h, dx, dy, cc, F, rh, rdx, rdy, ec, et, p⟩ := h
  obtain ⟨a, C, ddx, fs, fds, rfl, hC, hH, hf, rf⟩ := ins_of rh rdy ec
  obtain ⟨f, h1, h2, fa⟩ := du.ok cc C F et hC
  cases ry
  obtain ⟨ox, od, J⟩ := inst_at I hH
  obtain ⟨m, hF⟩ := I.fr
  refine ⟨a, C, f, ox, od, m, rfl, J, hF, by rw [c.eK]; exact h1, by rw [c.eK]; exact h2, wpAny_mono (run_fa fa c (c.room.mono hj) I (.cons (show RelV (.ref a) (.ref a) from rfl) (.cons rx .nil)) (.cons rdy (.cons rdx .nil)) rh (PostR.nx p)) (fun v s' hv => ?_) fun _ _ e => e⟩
  obtain ⟨y, H', I', ry, b, ey, q⟩ := hv
  subst ey
  exact ⟨b, ry, .bl (neg ^^ b), H', I', rfl, q⟩
theorem op_inI {j : Nat} {tbl : Nat → Option FD} (du : DU g j "__contains__" tbl) (hj : j ≤ k) {X : Cx} (c : At g N sc k X W) : OpR X (compareOp .In) (aIn g tbl false) := fun pins s σ H x y v u Q I rx ry h => by
  obtain ⟨a, C, f, ox, od, m, rfl, J, hF, h1, h2, hw⟩ := run_inI du hj c I rx ry h
  refine PySem.W.in_K hF I.ok.mod.kin J h1 h2 (wpAny_mono hw (fun r s' ⟨b, er, q⟩ => ?_) fun _ _ e => e)
  subst er
  rw [Bool.false_xor] at q
  exact wpAny_truthy_bool q
theorem op_notInI {j : Nat} {tbl : Nat → Option FD} (du : DU g j "__contains__" tbl) (hj : j ≤ k) {X : Cx} (c : At g N sc k X W) : OpR X (compareOp .NotIn) (aIn g tbl true) := fun pins s σ H x y v u Q I rx ry h => by
  obtain ⟨a, C, f, ox, od, m, rfl, J, hF, h1, h2, hw⟩ := run_inI du hj c I rx ry h
  refine PySem.W.notIn_K hF I.ok.mod.kin J h1 h2 (wpAny_mono hw (fun r s' ⟨b, er, q⟩ => ?_) fun _ _ e => e)
  subst er
  rw [Bool.true_xor] at q
  exact wpAny_truthy_bool q
def fMemI (tbl : Nat → Option FD) (neg : Bool) : D → D → Hm → Res D := fun x c h => match (clsOf h c).bind tbl with
  | some F => (nox (F [c, x] h)).bind fun v h1 => match v with
    | .bl b => .ok (.bl (neg ^^ b)) h1
    | _ => .bad
  | none => fMem neg x c h
theorem ok_memI {tbl : Nat → Option FD} {neg : Bool} {r : R2} (h2 : Ok2 g r (fMem neg)) : Ok2 g (fun x y H Q => r x y H Q ∨ aIn g tbl neg x y H Q) (fMemI tbl neg) := fun W σ G ι H h a b x y Q rh ra rb p => by
  unfold fMemI at p
  cases e : (clsOf h b).bind tbl with
  | none => rw [e] at p; exact .inl (h2 W σ G ι H h a b x y Q rh ra rb p)
  | some F =>
    rw [e] at p
    obtain ⟨cc, e1, e2⟩ := Option.bind_eq_some_iff.mp e
    refine .inr ⟨G, ι, h, a, b, cc, F, rh, ra, rb, e1, e2, ?_⟩
    simp only at p
    cases ef : F [b, a] h with
    | exc _ _ => rw [ef] at p; exact p.elim
    | bad => rw [ef] at p; exact p.elim
    | ok z h1 =>
      rw [ef] at p
      intro G' ι' H' x gr rh' rx
      cases rx <;> first
        | exact p.elim
        | exact ⟨_, rfl, p G' ι' H' _ gr rh' (.bl _)⟩
theorem o_inI {j : Nat} {tbl : Nat → Option FD} (du : DU g j "__contains__" tbl) (hj : j ≤ k := by decide) : ∀ X W, At g N sc k X W → ∃ r, OpR X (compareOp .In) r ∧ Ok2 g r (fMemI tbl false) := fun X W c => by
  obtain ⟨r, h1, h2⟩ := o_in (g := g) (N := N) (sc := sc) (k := k) X W c
  exact ⟨_, OpR.or h1 (op_inI du hj c), ok_memI h2⟩
theorem o_notinI {j : Nat} {tbl : Nat → Option FD} (du : DU g j "__contains__" tbl) (hj : j ≤ k := by decide) : ∀ X W, At g N sc k X W → ∃ r, OpR X (compareOp .NotIn) r ∧ Ok2 g r (fMemI tbl true) := fun X W c => by
  obtain ⟨r, h1, h2⟩ := o_notin (g := g) (N := N) (sc := sc) (k := k) X W c
  exact ⟨_, OpR.or h1 (op_notInI du hj c), ok_memI h2⟩
end
end MP
end L2

set_option Elab.async false
set_option linter.all false
set_option maxRecDepth 100000
set_option maxHeartbeats 2000000
namespace L2
namespace MP
open PySem PySem.Spec PyProof.Rows
section
variable {g : GX} {N : List Str} {sc : SC} {k : Nat} {W : XW} {σ : St} {G : GP} {ι : List Addr} {H : Hp} {h : Hm} {ev : Ev} {w : World} {K : PySem.W.Frag} {ca : Nat → Option Addr}
/-- the loop of a comprehension that goes on behind -/
theorem comp_loopG {γ δ : Type} {R' : GP → List Addr → γ → δ → Prop} {Q' : δ → Hp → Prop} {t : Tg} {cond : MT} {elt : ME} {vs : List Nat} {J : It} {gt : TG} {tt : TT} {te : TE} {cont : List D → Hm → Res γ} {f0 p0 : Hp} {ι0 : List Addr} {h1 : Hm} {H1 : Hp} {ds : List D} {Da : Addr} {e0 : Ev} {σs : St} {accd0 : List D} {acc0 : List V} {End : Hp → Prop}
    (hgt : ∀ v σ H Q, tG g vs t v σ H Q → gt v σ H Q) (htt : ∀ σ H Q, tT g (fun _ _ _ => False) cond σ H Q → tt σ H Q) (hte : ∀ σ H Q, tE g (fun _ _ _ => False) elt σ H Q → te σ H Q)
    (ok : ItOk g J ⟨f0, upd p0 Da (.lst acc0)⟩ ι0 ds) (rh1 : RH g.w g.K g.ca ⟨f0, upd p0 Da (.lst acc0)⟩ ι0 H1 h1) (rs0 : RS g.w g.K g.ca ⟨f0, p0⟩ ι0 (wipe σs vs) e0) (ra0 : RepL g.w g.K g.ca ⟨f0, p0⟩ ι0 accd0 acc0)
    (hend : ∀ accd h2 f ι2 H2 acc, Same f0 f → ι0 <+: ι2 → RH g.w g.K g.ca ⟨f, upd p0 Da (.lst acc)⟩ ι2 H2 h2 → RepL g.w g.K g.ca ⟨f, p0⟩ ι2 accd acc → PostR g W σ R' ⟨f, p0⟩ ι2 (cont accd h2) Q' → End H2)
    (hlen : ∀ (accd : List D) h2, cont accd h2 ≠ .bad → accd.length ≤ LIM)
    (p : PostR g W σ R' ⟨f0, p0⟩ ι0 ((compL t cond elt e0 ds h1).bind fun vs h3 => cont (accd0 ++ vs) h3) Q') :
    ∃ W' : Nat → Nat → Hp → Prop, (∃ m, W' 0 m H1) ∧ ∀ i m H, W' i m H →
      (J.stop i H ∧ End H) ∨ (J.go i H ∧ ∃ Nx : Hp → Prop, (∀ H', Nx H' → ∃ m', m' < m ∧ W' (i + 1) m' H') ∧ ∀ x H', J.yld i H x H' → gt x (wipe σs vs) H' fun σ2 H2 => wipe σ2 vs = wipe σs vs ∧ tt σ2 H2 fun b H3 =>
        if b = true then te σ2 H3 fun y H4 => ∃ acc, H4 Da = some (.lst acc) ∧ acc.length < sizeLine ∧ Nx (upd H4 Da (.lst (acc ++ [y]))) else Nx H3) := by
  refine ⟨fun i m H => m = ds.length - i ∧ i ≤ ds.length ∧ ∃ f ι2 h2 accd acc, Same f0 f ∧ ι0 <+: ι2 ∧ RH g.w g.K g.ca ⟨f, upd p0 Da (.lst acc)⟩ ι2 H h2 ∧ RepL g.w g.K g.ca ⟨f, p0⟩ ι2 accd acc ∧
      PostR g W σ R' ⟨f, p0⟩ ι2 ((compL t cond elt e0 (ds.drop i) h2).bind fun vs h3 => cont (accd ++ vs) h3) Q',
    ⟨ds.length, by simp, Nat.zero_le _, f0, ι0, h1, accd0, acc0, Same.refl _, List.prefix_refl _, rh1, ra0, by simpa using p⟩, ?_⟩
  rintro i m H ⟨rfl, hi, f, ι2, h2, accd, acc, sf, pι, rh2, racc, p2⟩
  obtain ⟨stop, turn⟩ := ok ⟨f, upd p0 Da (.lst acc)⟩ ι2 H h2 sf pι rh2
  by_cases hlt : i < ds.length
  · have hd : ds[i]? = some ds[i] := by simp [hlt]
    obtain ⟨go, yl⟩ := turn i _ hd
    have hdrop : ds.drop i = ds[i] :: ds.drop (i + 1) := List.drop_eq_getElem_cons hlt
    rw [hdrop] at p2
    simp only [compL] at p2
    refine .inr ⟨go, fun H' => ∃ f ι2 h2 accd acc, Same f0 f ∧ ι0 <+: ι2 ∧ RH g.w g.K g.ca ⟨f, upd p0 Da (.lst acc)⟩ ι2 H' h2 ∧ RepL g.w g.K g.ca ⟨f, p0⟩ ι2 accd acc ∧
      PostR g W σ R' ⟨f, p0⟩ ι2 ((compL t cond elt e0 (ds.drop (i + 1)) h2).bind fun vs h3 => cont (accd ++ vs) h3) Q', fun H' z => ⟨ds.length - (i + 1), by omega, rfl, hlt, z⟩, fun x H' y => ?_⟩
    obtain ⟨G3, gr3, rh3, rx⟩ := yl x H' y
    have grn : ∀ {Ga : GP} {ιa : List Addr}, Gr ⟨f, upd p0 Da (.lst acc)⟩ ι2 Ga ιa → Gr ⟨f, p0⟩ ι2 ⟨Ga.f, p0⟩ ιa := fun gr => ⟨gr.s, gr.p, rfl⟩
    cases et : t ds[i] e0 with
    | none => rw [et] at p2; exact p2.elim
    | some e1 =>
      rw [et] at p2
      simp only [Res.bind_assoc] at p2
      refine hgt _ _ _ _ ⟨G3, ι2, e0, h2, ds[i], (rs0.mono (show Same (⟨f0, p0⟩ : GP).f G3.f from sf.trans gr3.s) (pι.trans gr3.p)), rh3, rx, e1, et, fun σ' rs' off => ⟨(wipe_off off).trans (wipe_off wipe_is), ?_⟩⟩
      refine htt _ _ _ ⟨G3, ι2, e1, h2, rs', rh3, ?_⟩
      cases hc : cond e1 h2 with
      | exc _ _ => rw [hc] at p2; exact p2.elim
      | bad => rw [hc] at p2; exact p2.elim
      | ok b h3 =>
        rw [hc] at p2
        intro G4 ι4 H4 b' gr4 rh4 eb
        subst eb
        have q4 : G4.p = upd p0 Da (.lst acc) := gr4.q.trans gr3.q
        have g4 : Gr ⟨f, p0⟩ ι2 ⟨G4.f, p0⟩ ι4 := grn (gr3.trans gr4)
        cases b with
        | false =>
          show ∃ f ι2 h2 accd acc, _
          refine ⟨G4.f, ι4, h3, accd, acc, sf.trans (gr3.trans gr4).s, pι.trans (gr3.trans gr4).p, ?_, racc.mono g4.s g4.p, PostR.grow g4 p2⟩
          have e4 : (⟨G4.f, upd p0 Da (.lst acc)⟩ : GP) = G4 := by rw [← q4]
          rw [e4]; exact rh4
        | true =>
          refine hte _ _ _ ⟨G4, ι4, e1, h3, rs'.mono gr4.s gr4.p, rh4, ?_⟩
          cases he : elt e1 h3 with
          | exc _ _ => simp only [nox, Res.bind, if_true, he] at p2; exact p2.elim
          | bad => simp only [nox, Res.bind, if_true, he] at p2; exact p2.elim
          | ok v h4 =>
            have p3 : PostR g W σ R' ⟨f, p0⟩ ι2 ((compL t cond elt e0 (ds.drop (i + 1)) h4).bind fun vs h5 => cont (accd ++ v :: vs) h5) Q' := by
              simp only [nox, Res.bind, if_true, he] at p2
              cases hr : compL t cond elt e0 (ds.drop (i + 1)) h4 with
              | ok vs h5 => simp only [hr] at p2; exact p2
              | exc _ _ => exact (compL_noexc hr).elim
              | bad => simp only [hr] at p2; exact p2.elim
            intro G5 ι5 H5 y gr5 rh5 ry
            have q5 : G5.p = upd p0 Da (.lst acc) := gr5.q.trans q4
            have g5 : Gr ⟨f, p0⟩ ι2 ⟨G5.f, p0⟩ ι5 := grn ((gr3.trans gr4).trans gr5)
            have e5 : (⟨G5.f, upd p0 Da (.lst acc)⟩ : GP) = G5 := by rw [← q5]
            have hDa : H5 Da = some (.lst acc) := rh5.pin Da _ (by rw [q5]; exact upd_same)
            refine ⟨acc, hDa, ?_, ?_⟩
            · rw [← racc.length, lim_eq]
              cases hr : compL t cond elt e0 (ds.drop (i + 1)) h4 with
              | ok vs h5 =>
                rw [hr] at p3
                have := hlen (accd ++ v :: vs) h5 (fun z => by
                  have p3' : PostR g W σ R' ⟨f, p0⟩ ι2 (cont (accd ++ v :: vs) h5) Q' := p3
                  rw [z] at p3'; exact p3')
                simp only [List.length_append, List.length_cons] at this
                omega
              | exc _ _ => exact (compL_noexc hr).elim
              | bad => rw [hr] at p3; exact p3.elim
            · have ry' : Rep g.w g.K g.ca ⟨G5.f, p0⟩ ι5 v y := ry.mono (show Same G5.f (⟨G5.f, p0⟩ : GP).f from Same.refl _) (List.prefix_refl _)
              refine ⟨G5.f, ι5, h4, accd ++ [v], acc ++ [y], sf.trans ((gr3.trans gr4).trans gr5).s, pι.trans ((gr3.trans gr4).trans gr5).p, ?_, (racc.mono g5.s g5.p).app (.cons ry' .nil), ?_⟩
              · exact RH.rehide (by rw [e5]; exact rh5)
              · have p4 := PostR.grow g5 p3
                simpa only [List.append_assoc, List.singleton_append] using p4
  · have e0' : i = ds.length := by omega
    subst e0'
    rw [List.drop_length] at p2
    refine .inl ⟨stop, hend accd h2 f ι2 H acc sf pι rh2 racc ?_⟩
    simpa [compL, Res.bind] using p2
/-! ### [.. for .. in .. for .. in ..] -/
def compL2 (t : Tg) (cond : MT) (mi1 : MI) (t1 : Tg) (cond1 : MT) (elt : ME) (vs1 : List Nat) (e0 : Ev) : List D → Hm → Res (List D)
  | [], h => .ok [] h
  | d :: ds, h => match t d e0 with
    | none => .bad
    | some e1 => (nox (cond e1 h)).bind fun b h1 => if b = true then (nox (mi1 e1 h1)).bind fun ds1 h2 => (compL t1 cond1 elt (ewipe e1 vs1) ds1 h2).bind fun vs h3 => (compL2 t cond mi1 t1 cond1 elt vs1 e0 ds h3).bind fun ws h4 => .ok (vs ++ ws) h4
      else compL2 t cond mi1 t1 cond1 elt vs1 e0 ds h1
def mComp2 (m : MI) (t : Tg) (cond : MT) (mi1 : MI) (t1 : Tg) (cond1 : MT) (elt : ME) (vs vs1 : List Nat) : ME := fun e h => (m e h).bind fun ds h1 => (compL2 t cond mi1 t1 cond1 elt vs1 (ewipe e vs) ds h1).bind fLst
theorem compL2_noexc {t : Tg} {cond : MT} {mi1 : MI} {t1 : Tg} {cond1 : MT} {elt : ME} {vs1 : List Nat} {e0 : Ev} : ∀ {ds : List D} {h : Hm} {c : Nat} {h' : Hm}, compL2 t cond mi1 t1 cond1 elt vs1 e0 ds h = .exc c h' → False
  | [], h, c, h', e => by cases e
  | d :: ds, h, c, h', e => by
    simp only [compL2] at e
    split at e
    · cases e
    · rename_i e1 _
      cases hc : cond e1 h with
      | ok b h1 =>
        simp only [hc, nox, Res.bind] at e
        cases b with
        | false => exact compL2_noexc (by simpa using e)
        | true =>
          simp only [if_true] at e
          cases he : mi1 e1 h1 with
          | ok ds1 h2 =>
            simp only [he] at e
            cases h3 : compL t1 cond1 elt (ewipe e1 vs1) ds1 h2 with
            | ok vs h4 =>
              simp only [h3] at e
              cases hr : compL2 t cond mi1 t1 cond1 elt vs1 e0 ds h4 with
              | ok ws h5 => rw [hr] at e; cases e
              | exc c2 h5 => exact compL2_noexc hr
              | bad => rw [hr] at e; cases e
            | exc c2 h4 => exact compL_noexc h3
            | bad => rw [h3] at e; cases e
          | exc _ _ => simp only [he] at e; cases e
          | bad => simp only [he] at e; cases e
      | exc _ _ => simp only [hc, nox, Res.bind] at e; cases e
      | bad => simp only [hc, nox, Res.bind] at e; cases e
theorem comp2_of {own : List (Str × Nat)} {mi mi1 : MI} {t t1 : Tg} {cond cond1 : MT} {m : ME} {vs vs1 : List Nat} (hv : own.map (·.2) = vs) {Q : VK} (q : tE g W (mComp2 mi t cond mi1 t1 cond1 m vs vs1) σ H Q) :
    tLc2 (tI g W mi) (tG g vs t) (tT g (fun _ _ _ => False) cond) (tI g (fun _ _ _ => False) mi1) (tG g vs1 t1) (tT g (fun _ _ _ => False) cond1) (tE g (fun _ _ _ => False) m) (own.map (·.2)) vs1 σ H Q := by
  obtain ⟨G, ι, e, h, rs, rh, p⟩ := q
  refine ⟨G, ι, e, h, rs, rh, p.bind fun ds h1 _ G1 ι1 H1 J gr rh1 ok p1 => ?_⟩
  intro Da hD
  rw [hv]
  have hpD : G1.p Da = none := rh1.pin.free hD
  have rs0 : RS g.w g.K g.ca G1 ι1 (wipe σ vs) (ewipe e vs) := (rs.mono gr.s gr.p).wipe vs
  refine ⟨fun i m' H => m' = ds.length - i ∧ i ≤ ds.length ∧ ∃ f ι2 h2 accd acc, Same G1.f f ∧ ι1 <+: ι2 ∧ RH g.w g.K g.ca ⟨f, upd G1.p Da (.lst acc)⟩ ι2 H h2 ∧ RepL g.w g.K g.ca ⟨f, G1.p⟩ ι2 accd acc ∧
      PostR g W σ (RpE g) ⟨f, G1.p⟩ ι2 ((compL2 t cond mi1 t1 cond1 m vs1 (ewipe e vs) (ds.drop i) h2).bind fun vs h3 => fLst (accd ++ vs) h3) Q,
    ⟨ds.length, by simp, Nat.zero_le _, G1.f, ι1, h1, [], [], Same.refl _, List.prefix_refl _, rh1.hide hD, .nil, by simpa using p1⟩, ?_⟩
  rintro i m' H ⟨rfl, hi, f, ι2, h2, accd, acc, sf, pι, rh2, racc, p2⟩
  obtain ⟨stop, turn⟩ := ok ⟨f, upd G1.p Da (.lst acc)⟩ ι2 H h2 sf pι rh2
  by_cases hlt : i < ds.length
  · have hd : ds[i]? = some ds[i] := by simp [hlt]
    obtain ⟨go, yl⟩ := turn i _ hd
    have hdrop : ds.drop i = ds[i] :: ds.drop (i + 1) := List.drop_eq_getElem_cons hlt
    rw [hdrop] at p2
    simp only [compL2] at p2
    let Nx : Hp → Prop := fun H' => ∃ f ι2 h2 accd acc, Same G1.f f ∧ ι1 <+: ι2 ∧ RH g.w g.K g.ca ⟨f, upd G1.p Da (.lst acc)⟩ ι2 H' h2 ∧ RepL g.w g.K g.ca ⟨f, G1.p⟩ ι2 accd acc ∧
      PostR g W σ (RpE g) ⟨f, G1.p⟩ ι2 ((compL2 t cond mi1 t1 cond1 m vs1 (ewipe e vs) (ds.drop (i + 1)) h2).bind fun vs h3 => fLst (accd ++ vs) h3) Q
    refine .inr ⟨go, Nx, fun H' z => ⟨ds.length - (i + 1), by omega, rfl, hlt, z⟩, fun x H' y => ?_⟩
    obtain ⟨G3, gr3, rh3, rx⟩ := yl x H' y
    have grn : ∀ {Ga : GP} {ιa : List Addr}, Gr ⟨f, upd G1.p Da (.lst acc)⟩ ι2 Ga ιa → Gr ⟨f, G1.p⟩ ι2 ⟨Ga.f, G1.p⟩ ιa := fun gr => ⟨gr.s, gr.p, rfl⟩
    cases et : t ds[i] (ewipe e vs) with
    | none => rw [et] at p2; exact p2.elim
    | some e1 =>
      rw [et] at p2
      simp only [Res.bind_assoc] at p2
      refine ⟨G3, ι2, ewipe e vs, h2, ds[i], (rs0.mono (sf.trans gr3.s) (pι.trans gr3.p)), rh3, rx, e1, et, fun σ' rs' off => ⟨(wipe_off off).trans (wipe_off wipe_is), ?_⟩⟩
      refine ⟨G3, ι2, e1, h2, rs', rh3, ?_⟩
      cases hc : cond e1 h2 with
      | exc _ _ => rw [hc] at p2; exact p2.elim
      | bad => rw [hc] at p2; exact p2.elim
      | ok b h3 =>
        rw [hc] at p2
        intro G4 ι4 H4 b' gr4 rh4 eb
        subst eb
        have q4 : G4.p = upd G1.p Da (.lst acc) := gr4.q.trans gr3.q
        have g4 : Gr ⟨f, G1.p⟩ ι2 ⟨G4.f, G1.p⟩ ι4 := grn (gr3.trans gr4)
        have e4 : (⟨G4.f, upd G1.p Da (.lst acc)⟩ : GP) = G4 := by rw [← q4]
        cases b with
        | false => exact ⟨G4.f, ι4, h3, accd, acc, sf.trans (gr3.trans gr4).s, pι.trans (gr3.trans gr4).p, by rw [e4]; exact rh4, racc.mono g4.s g4.p, PostR.grow g4 p2⟩
        | true =>
          refine ⟨G4, ι4, e1, h3, rs'.mono gr4.s gr4.p, rh4, ?_⟩
          cases hm : mi1 e1 h3 with
          | exc _ _ => simp only [nox, Res.bind, if_true, hm] at p2; exact p2.elim
          | bad => simp only [nox, Res.bind, if_true, hm] at p2; exact p2.elim
          | ok ds1 h4 =>
            intro G5 ι5 H5 J1 gr5 rh5 ok1
            have q5 : G5.p = upd G1.p Da (.lst acc) := gr5.q.trans q4
            have g5 : Gr ⟨f, G1.p⟩ ι2 ⟨G5.f, G1.p⟩ ι5 := grn ((gr3.trans gr4).trans gr5)
            have e5 : (⟨G5.f, upd G1.p Da (.lst acc)⟩ : GP) = G5 := by rw [← q5]
            have p3 : PostR g W σ (RpE g) ⟨f, G1.p⟩ ι2 ((compL t1 cond1 m (ewipe e1 vs1) ds1 h4).bind fun us h5 => (compL2 t cond mi1 t1 cond1 m vs1 (ewipe e vs) (ds.drop (i + 1)) h5).bind fun ws h6 => fLst ((accd ++ us) ++ ws) h6) Q := by
              simp only [nox, Res.bind, if_true, hm] at p2
              cases hr : compL t1 cond1 m (ewipe e1 vs1) ds1 h4 with
              | exc _ _ => exact (compL_noexc hr).elim
              | bad => simp only [hr] at p2; exact p2.elim
              | ok us h5 =>
                simp only [hr] at p2
                show PostR g W σ (RpE g) ⟨f, G1.p⟩ ι2 ((compL2 t cond mi1 t1 cond1 m vs1 (ewipe e vs) (ds.drop (i + 1)) h5).bind fun ws h6 => fLst ((accd ++ us) ++ ws) h6) Q
                cases hr2 : compL2 t cond mi1 t1 cond1 m vs1 (ewipe e vs) (ds.drop (i + 1)) h5 with
                | exc _ _ => exact (compL2_noexc hr2).elim
                | bad => simp only [hr2] at p2; exact p2.elim
                | ok ws h6 =>
                  simp only [hr2] at p2
                  show PostR g W σ (RpE g) ⟨f, G1.p⟩ ι2 (fLst ((accd ++ us) ++ ws) h6) Q
                  rw [List.append_assoc]; exact p2
            refine comp_loopG (W := W) (σ := σ) (R' := RpE g) (Q' := Q) (t := t1) (cond := cond1) (elt := m) (cont := fun ac h5 => (compL2 t cond mi1 t1 cond1 m vs1 (ewipe e vs) (ds.drop (i + 1)) h5).bind fun ws h6 => fLst (ac ++ ws) h6) (f0 := G5.f) (p0 := G1.p) (ι0 := ι5) (h1 := h4) (ds := ds1) (Da := Da) (e0 := ewipe e1 vs1) (σs := σ') (accd0 := accd) (acc0 := acc) (End := Nx)
              (fun _ _ _ _ z => z) (fun _ _ _ z => z) (fun _ _ _ z => z) (by rw [e5]; exact ok1) (by rw [e5]; exact rh5) (((rs'.mono (gr4.trans gr5).s (gr4.trans gr5).p).wipe vs1).mono (show Same G5.f (⟨G5.f, G1.p⟩ : GP).f from Same.refl _) (List.prefix_refl _)) (racc.mono g5.s g5.p)
              (fun accd' h5 f' ι6 H6 acc' sf' pι' rh6 racc' p6 => ⟨f', ι6, h5, accd', acc', (sf.trans ((gr3.trans gr4).trans gr5).s).trans sf', (pι.trans ((gr3.trans gr4).trans gr5).p).trans pι', rh6, racc', p6⟩)
              (fun ac h5 hb => ?_) (PostR.grow g5 p3)
            cases hr2 : compL2 t cond mi1 t1 cond1 m vs1 (ewipe e vs) (ds.drop (i + 1)) h5 with
            | exc _ _ => exact (compL2_noexc hr2).elim
            | bad => exact absurd (by simp [hr2, Res.bind]) hb
            | ok ws h6 =>
              have := fLst_len (ac ++ ws) h6 (fun z => hb (by simp only [hr2, Res.bind]; exact z))
              rw [List.length_append] at this
              omega
  · have e0' : i = ds.length := by omega
    subst e0'
    rw [List.drop_length] at p2
    refine .inl ⟨stop, fin_lst W σ accd h2 f G1.p ι2 H acc Da Q hpD rh2 racc ?_⟩
    simpa [compL2, Res.bind] using p2
section
variable {tg iter tg1 iter1 elt : Expr} {ifs ifs1 : List Expr} {scope : Scope} {own : List (Str × Nat)} {mi mi1 : MI} {t t1 : Tg} {cond cond1 : MT} {m : ME} {vs vs1 : List Nat} {pos : Pos}
theorem blk_tI {X : Cx} (c : At g N sc k X W) (hi1 : SI g N (bsc scope sc) k tg1 iter1 mi1) (s : Shared) (H : Hp) (C : Addr) (cl : List (Str × Addr)) (fp : List Addr) : PI (X.blk s H scope (compEnvC scope cl C X.env) fp) tg1 iter1 (tI g (fun _ _ _ => False) mi1) := hi1 _ _ (c.blk s H C cl fp)
theorem se_comp2 (own : List (Str × Nat)) {ws : List Nat} (hi : SI g N sc k tg iter mi) (hgv : SG g N (bsc scope sc) k tg ws t) (ht : STs g N (bsc scope sc) k ifs cond) (hi1 : SI g N (bsc scope sc) k tg1 iter1 mi1) (hg1 : SG g N (bsc scope sc) k tg1 vs1 t1) (ht1 : STs g N (bsc scope sc) k ifs1 cond1) (he : SE g N (bsc scope sc) k elt m)
    (ok : blkC N sc.scope scope own = true := by decide +kernel) (hv : own.map (·.2) = ws := by rfl) (hv1 : ∀ i ∈ vs1, i ∈ own.map (·.2) := by decide)
    (hs : ∀ env x, foldedSetIterable iter env x = pure x := by intro _ _; rfl) (hs1 : ∀ env x, foldedSetIterable iter1 env x = pure x := by intro _ _; rfl) : SE g N sc k (.ListComp elt [⟨tg, iter, ifs, 0⟩, ⟨tg1, iter1, ifs1, 0⟩] scope pos) (mComp2 mi t cond mi1 t1 cond1 m ws vs1) := fun X W c =>
  (pe_lc2 (own := own) (vs1 := vs1) c.calm c.nd (hi X W c) (by rw [c.eN, c.es]; exact blkOk_by ok) hv1 (fun s H C cl fp => hgv _ _ (c.blk s H C cl fp)) (fun s H C cl fp => ht _ _ (c.blk s H C cl fp)) (fun s H C cl fp => hi1 _ _ (c.blk s H C cl fp)) (fun s H C cl fp => hg1 _ _ (c.blk s H C cl fp)) (fun s H C cl fp => ht1 _ _ (c.blk s H C cl fp)) (fun s H C cl fp => he _ _ (c.blk s H C cl fp)) (hs _) hs1).imp fun σ H Q q =>
    comp2_of hv q
end
/-- a target's slots, more of them -/
theorem sg_wide {tg : Expr} {vs ws : List Nat} {t : Tg} (h : SG g N sc k tg vs t) (hw : ∀ i ∈ vs, i ∈ ws) : SG g N sc k tg ws t := fun X W c => (h X W c).imp fun v σ H Q ⟨G, ι, e, h, d, rs, rh, r, e', et, q⟩ => ⟨G, ι, e, h, d, rs, rh, r, e', et, fun σ' rs' off => q σ' rs' (off.mono hw)⟩
end
end MP
end L2

set_option Elab.async false
set_option linter.all false
set_option maxRecDepth 100000
set_option maxHeartbeats 2000000
namespace L2
namespace MP
open PySem PySem.Spec PyProof.Rows
section
variable {g : GX} {N : List Str} {sc : SC} {k : Nat} {W : XW} {σ : St} {G : GP} {ι : List Addr} {H : Hp} {h : Hm} {ev : Ev} {w : World} {K : PySem.W.Frag} {ca : Nat → Option Addr}
/-! ### x + t, x - t: x an instance, t a tuple -/
structure OwnOp (op : Operator) : Prop where
  nf : fillsNumberSlot (.type "tuple") op.info.2 = pure false
theorem own_add : OwnOp .Add := ⟨noFill_tuple_add⟩
theorem own_sub : OwnOp .Sub := ⟨noFill_tuple_sub⟩
def isTup : D → Bool
  | .tup _ => true
  | _ => false
def fBinI (tbl : Nat → Option FD) (F0 : D → D → Hm → Res D) : D → D → Hm → Res D := fun a b h => match (clsOf h a).bind tbl with
  | some F => if isTup b = true then F [a, b] h else .bad
  | none => F0 a b h
theorem tup_ty {X : Cx} {pins : List (Addr × Obj)} {s : Shared} {a : Addr} {xs : List V} (I : Inv X pins σ H s) (h : SqT X.K H a xs) : PySem.W.Looks (model X.prog X.w) s.heap (typeOf (.ref a)) (.type "tuple") := by
  obtain ⟨its, rv, ⟨o, ho, hc, n, hd⟩, hz⟩ := I.tuple h
  exact hc ▸ (PySem.W.Looks.ld ho).andThen .now
theorem se_binI {op : Operator} {j : Nat} {tbl : Nat → Option FD} {F0 : D → D → Hm → Res D} {a b : Expr} {ma mb : ME} {pos : Pos} (oo : OwnOp op) (du : DU g j (PySem.dunder op.info.2) tbl) (sf : ∀ c C F, tbl c = some F → g.ca c = some C → PySem.W.selfFirst g.K C = true) (ho : ∀ X W, At g N sc k X W → ∃ r, OpR X (binaryOp op) r ∧ Ok2 g r F0)
    (ha : SE g N sc k a ma) (hb : SE g N sc k b mb) (hj : j ≤ k := by decide) : SE g N sc k (.BinOp a op b pos) (m2 (fBinI tbl F0) ma mb) := fun X W c => by
  obtain ⟨r, h1, h2⟩ := ho X W c
  refine ⟨fun pins s σ H Q I q => ?_⟩
  obtain ⟨G, ι, e, h, rs, rh, p⟩ := q
  refine wpAny_BinOp (binT (R := fun x y H2 => ∃ G2 ι2 h2 v v2, RH g.w g.K g.ca G2 ι2 H2 h2 ∧ Rep g.w g.K g.ca G2 ι2 v x ∧ Rep g.w g.K g.ca G2 ι2 v2 y ∧ PostR g W σ (RpE g) G2 ι2 (fBinI tbl F0 v v2 h2) Q) (ha X W c) (hb X W c) I
    (tE_go rs rh p fun v h1 G1 ι1 H1 x _ gr rh1 rs1 rx p1 => tE_go rs1 rh1 p1 fun v2 h2 G2 ι2 H2 y _ gr2 rh2 rs2 ry p2 => ⟨G2, ι2, h2, v, v2, rh2, rx.mono gr2.s gr2.p, ry, p2⟩) fun v u s2 x y H2 I2 rx ry hh => ?_)
  obtain ⟨G2, ι2, h2', da, db, rh2, rda, rdb, p2⟩ := hh
  unfold fBinI at p2
  cases ec : (clsOf h2' da).bind tbl with
  | none => rw [ec] at p2; exact h1 pins s2 σ H2 x y v u Q I2 rx ry (h2 W σ G2 ι2 H2 h2' da db x y Q rh2 rda rdb p2)
  | some F =>
    rw [ec] at p2
    obtain ⟨cc, e1, e2⟩ := Option.bind_eq_some_iff.mp ec
    obtain ⟨p0, C, dx, fs, fds, rfl, hC, hH, hf, rf⟩ := ins_of rh2 rda e1
    obtain ⟨f, d1, d2, fa⟩ := du.ok cc C F e2 hC
    simp only at p2
    cases rdb with
    | tup q rl =>
      cases rx
      obtain ⟨ox, od, J⟩ := inst_at I2 hH
      obtain ⟨m, hF⟩ := I2.fr
      have ru := ry
      cases ry
      refine binop_T hF I2.ok.mod.kin J (tup_ty I2 (by rw [c.eK]; exact same_sqT rh2.le q)) oo.nf (by rw [c.eK]; exact sf cc C F e2 hC) (by rw [c.eK]; exact d1) (by rw [c.eK]; exact d2) (wpAny_mono (run_fa (as := [da, .tup _]) fa c (c.room.mono hj) I2 (.cons (show RelV (.ref p0) (.ref p0) from rfl) (.cons ru .nil)) (.cons rda (.cons (.tup q rl) .nil)) rh2 p2) (fun v s' hv => ?_) fun _ _ e => e)
      obtain ⟨z, H', I', rz, q2⟩ := hv
      exact SlX.cmpback rz ⟨z, H', I', rz, q2⟩
    | _ => exact p2.elim

/-! ### * of sequences -/
/-- tuple * 1 is the tuple; () * n, too; tuple * n, n ≤ 0, is () -/
theorem tuple_mulS (l : Addr) (items : Array Value) (n : Nat) (dd : Option Addr) (sl : Array (Option Value)) (x : Int) (u : Tok) (c0 : (decide (x < -(2 ^ 63)) || decide (x ≥ 2 ^ 63)) = false) (c1 : (items.isEmpty || x == 1) = true) :
    Meets (Builtin.«tuple.__mul__» ⟨[.ref l, .int x u], []⟩) (fun _ R s => s.heap.get? l = some { cls := .type "tuple", dict := dd, data := .seq items n, slots := sl } ∧ R (.ok (.ret (Value.ref l))) s) :=
  .of_wp fun prog w A R s h => by
    obtain ⟨hp, g, d, tk, os⟩ := s
    obtain ⟨hl, h⟩ := h
    have f1 := AutoSeq1.idx_int
    wp_walk using wpAny_loadPart' hl
    repeat (first
      | (refine wpAny_ite_false (decide_eq_false (by rw [c0]; exact Bool.false_ne_true)) ?_; wp_walk using wpAny_loadPart' hl)
      | (refine wpAny_ite_true (decide_eq_true c1) ?_; wp_walk using wpAny_loadPart' hl))
    exact ⟨_, rfl, h⟩
theorem tuple_mulZ (l : Addr) (items : Array Value) (n : Nat) (dd : Option Addr) (sl : Array (Option Value)) (x : Int) (u : Tok) (c0 : (decide (x < -(2 ^ 63)) || decide (x ≥ 2 ^ 63)) = false) (c1 : (items.isEmpty || x == 1) = false) (c2 : (decide (x ≤ 0) || items.isEmpty) = true) :
    Meets (Builtin.«tuple.__mul__» ⟨[.ref l, .int x u], []⟩) (fun _ R s => s.heap.get? l = some { cls := .type "tuple", dict := dd, data := .seq items n, slots := sl } ∧
      R (.ok (.ret (Value.ref s.heap.objs.size))) { s with heap := s.heap.push { cls := Value.type "tuple", data := Data.seq #[] }, toks := s.toks }) :=
  .of_wp fun prog w A R s h => by
    obtain ⟨hp, g, d, tk, os⟩ := s
    obtain ⟨hl, h⟩ := h
    have f1 := AutoSeq1.idx_int
    have hz : (#[] : Array Value).size ≤ sizeLine := Nat.zero_le _
    wp_walk using wpAny_loadPart' hl
    repeat (first
      | (refine wpAny_ite_false (decide_eq_false (by rw [c0]; exact Bool.false_ne_true)) ?_; wp_walk using wpAny_loadPart' hl)
      | (refine wpAny_ite_false (decide_eq_false (by rw [c1]; exact Bool.false_ne_true)) ?_; wp_walk using wpAny_loadPart' hl)
      | (refine wpAny_ite_true (decide_eq_true c2) ?_; wp_walk using wpAny_loadPart' hl)
      | (refine wpAny_ite_false (decide_eq_false (Nat.not_lt.mpr hz)) ?_; wp_walk using wpAny_loadPart' hl))
    exact ⟨_, rfl, h⟩
def rMulT (K : PySem.W.Frag) : R2 := fun x y H Q => ∃ l k xs, x = .ref l ∧ y = .int k ∧ SqT K H l xs ∧ -1000 ≤ k ∧ k ≤ 1000 ∧ (k ≤ 1 ∨ xs = []) ∧ ((xs = [] ∨ k = 1) → Q (.ref l) H) ∧ (¬ (xs = [] ∨ k = 1) → ∀ p, H p = none → Q (.ref p) (upd H p (.tup [])))
theorem op_mulT {X : Cx} : OpR X (binaryOp .Mult) (rMulT X.K) := by
  intro pins s σ H x y v u Q I rx ry h
  obtain ⟨l, k, xs, rfl, rfl, hT, h1, h2, h3, q1, q2⟩ := h
  cases rx
  obtain ⟨t, rfl⟩ := ry
  obtain ⟨its, r, ⟨⟨cls, dd, data, sl⟩, ho, hc, n, hd⟩, hs⟩ := I.tuple hT
  simp only at hc hd
  subst hc hd
  have c0 : (decide (k < -(2 ^ 63)) || decide (k ≥ 2 ^ 63)) = false := by
    rw [decide_eq_false (by omega), decide_eq_false (by omega)] <;> rfl
  have he : its.toArray.isEmpty = true ↔ xs = [] := by
    have hle := r.length
    cases its with
    | nil => simp; exact List.eq_nil_of_length_eq_zero hle
    | cons a b => cases xs with
      | nil => simp at hle
      | cons c d => simp
  by_cases hc : xs = [] ∨ k = 1
  · have c1 : (its.toArray.isEmpty || k == 1) = true := by
      rcases hc with e | e
      · rw [he.mpr e]; rfl
      · subst e; simp
    exact wpAny_binaryOp_repeat_ref (T := "tuple") (U := "int") (by decide) ⟨_, ho, rfl⟩ (fun s' => typeIs_int s' k t) noFill_tuple_mul PySem.F.fills_int_mul PySem.F.slot_int_rmul repeat_tuple PySem.F.slot_int_index.lookup
      (call_meets PySem.F.slot_int_rmul (typeIs_int s k t) PySem.F.entry_int_rmul (PySem.F.args_int_rmul_2 _ _) (int_rmul_tuple k t l its.toArray n dd sl)
        ⟨ho, rfl, ⟨_, ho, rfl⟩, call_meets PySem.F.slot_tuple_mul ⟨_, ho, rfl⟩ PySem.F.entry_tuple_mul (PySem.F.args_tuple_mul_2 _ _) (tuple_mulS l its.toArray n dd sl k t c0 c1) ⟨ho, ⟨.ref l, H, I, rfl, q1 hc⟩⟩⟩)
  · have c1 : (its.toArray.isEmpty || k == 1) = false := by
      cases hb : its.toArray.isEmpty with
      | true => exact absurd (.inl (he.mp hb)) hc
      | false => simp only [Bool.false_or]; exact beq_eq_false_iff_ne.mpr fun e => hc (.inr e)
    have c2 : (decide (k ≤ 0) || its.toArray.isEmpty) = true := by
      rw [decide_eq_true (by
        have : k ≠ 1 := fun e => hc (.inr e)
        rcases h3 with z | z
        · omega
        · exact absurd (.inl z) hc)]; rfl
    refine wpAny_binaryOp_repeat_ref (T := "tuple") (U := "int") (by decide) ⟨_, ho, rfl⟩ (fun s' => typeIs_int s' k t) noFill_tuple_mul PySem.F.fills_int_mul PySem.F.slot_int_rmul repeat_tuple PySem.F.slot_int_index.lookup
      (call_meets PySem.F.slot_int_rmul (typeIs_int s k t) PySem.F.entry_int_rmul (PySem.F.args_int_rmul_2 _ _) (int_rmul_tuple k t l its.toArray n dd sl)
        ⟨ho, rfl, ⟨_, ho, rfl⟩, call_meets PySem.F.slot_tuple_mul ⟨_, ho, rfl⟩ PySem.F.entry_tuple_mul (PySem.F.args_tuple_mul_2 _ _) (tuple_mulZ l its.toArray n dd sl k t c0 c1 c2) ⟨ho, ?_⟩⟩)
    show EP X pins σ Q (.ref s.heap.objs.size) _
    exact ⟨.ref s.heap.objs.size, _, I.laid (a := s.heap.objs.size) (o := .tup []) (t' := s.toks) (fun _ _ q => Heap.get?_push_of_some _ q) (Nat.le_refl _) ⟨Nat.zero_le _, [], .nil, ⟨_, Heap.get?_push_size _ rfl, rfl, 0, rfl⟩⟩, rfl, q2 hc _ (I.hok.fresh (Nat.le_refl _))⟩
def repD (n : Nat) (xs : List D) : List D := (List.replicate n xs).flatten
theorem rep_rep {ds : List D} {xs : List V} (r : RepL w K ca G ι ds xs) : ∀ n : Nat, RepL w K ca G ι (repD n ds) (List.replicate n xs).flatten
  | 0 => .nil
  | n + 1 => by
    unfold repD
    rw [List.replicate_succ, List.replicate_succ, List.flatten_cons, List.flatten_cons]
    exact r.app (rep_rep r n)
/-- *: ints; a tuple, a list (not to be changed) times a small int; a list times a bool -/
def fMul : D → D → Hm → Res D
  | .int i, .int j, h => fII iMul (.int i) (.int j) h
  | .tup xs, .int j, h => if decide (-1000 ≤ j) && decide (j ≤ 1000) && decide (xs.length ≤ 1000) then .ok (.tup (repD j.toNat xs)) h else .bad
  | .lst xs, .int j, h => if decide (-1000 ≤ j) && decide (j ≤ 1000) && decide (xs.length ≤ 1000) then .ok (.lst (repD j.toNat xs)) h else .bad
  | .lst xs, .bl b, h => .ok (.lst (if b = true then xs else [])) h
  | _, _, _ => .bad
theorem repD_one (xs : List D) : repD 1 xs = xs := by simp [repD]
theorem repD_nil (n : Nat) : repD n [] = [] := by simp [repD]
theorem repD_len (n : Nat) (xs : List D) : (repD n xs).length = n * xs.length := by simp [repD]
theorem o_mulA : ∀ X W, At g N sc k X W → ∃ r, OpR X (binaryOp .Mult) r ∧ Ok2 g r fMul := fun X W c => by
  obtain ⟨r0, h0, k0⟩ := o_mul (g := g) (N := N) (sc := sc) (k := k) X W c
  refine ⟨_, OpR.or h0 (OpR.or op_mulT (OpR.or op_repT (OpR.or op_rep op_mul_lb))), fun W σ G ι H h a b x y Q rh ra rb p => ?_⟩
  cases ra with
  | int i =>
    cases rb with
    | int j => exact .inl (k0 W σ G ι H h (.int i) (.int j) (.int i) (.int j) Q rh (.int i) (.int j) p)
    | _ => exact p.elim
  | @tup l ys ds q rl =>
    cases rb with
    | int j =>
      simp only [fMul] at p
      split at p
      · rename_i hc
        simp only [Bool.and_eq_true, decide_eq_true_eq] at hc
        by_cases hs : j ≤ 1 ∨ ys = []
        · refine .inr (.inl ⟨l, j, ys, rfl, rfl, by rw [c.eK]; exact same_sqT rh.le q, hc.1.1, hc.1.2, hs, fun e => ?_, fun e => ?_⟩)
          · have e2 : repD j.toNat ds = ds := by
              rcases e with e | e
              · have := (nilL rl).mp e; subst this; exact repD_nil _
              · subst e; exact repD_one ds
            rw [e2] at p
            exact p.here rh (.tup q rl)
          · have e2 : repD j.toNat ds = [] := by
              have : j.toNat = 0 := by
                have : j ≠ 1 := fun z => e (.inr z)
                rcases hs with z | z
                · omega
                · exact absurd (.inl z) e
              rw [this]; rfl
            rw [e2] at p
            exact new_tup rh .nil p
        · have he : ys ≠ [] := fun z => hs (.inr z)
          have hj : ¬ j ≤ 1 := fun z => hs (.inl z)
          exact .inr (.inr (.inl ⟨l, j, ys, rfl, rfl, by rw [c.eK]; exact same_sqT rh.le q, he, by omega, hc.1.2, by rw [← rl.length]; exact hc.2, new_tup rh (rep_rep rl _) p⟩))
      · exact p.elim
    | _ => exact p.elim
  | @lst l ys ds q rl =>
    cases rb with
    | int j =>
      simp only [fMul] at p
      split at p
      · rename_i hc
        simp only [Bool.and_eq_true, decide_eq_true_eq] at hc
        refine .inr (.inr (.inr (.inl ⟨l, j, ys, rfl, rfl, rh.le _ _ q, by omega, by omega, ?_, new_lst rh (rep_rep rl _) p⟩)))
        rw [← rl.length, lim_eq]
        have a1 : ds.length * j.toNat ≤ 1000 * 1000 := Nat.mul_le_mul hc.2 (by omega)
        unfold LIM; omega
      · exact p.elim
    | bl b =>
      refine .inr (.inr (.inr (.inr ⟨_, _, b, rfl, rfl, by rw [c.eK]; exact SqL.of (rh.le _ _ q), ?_⟩)))
      cases b with
      | true => exact new_lst rh rl p
      | false => exact new_lst rh .nil p
    | _ => exact p.elim
  | _ => exact absurd p (by cases b <;> simp [fMul, PostR])
/-! ### repr(a) == repr(b), the two alike -/
mutual
def D.same : D → D → Bool
  | .non, .non => true
  | .bl a, .bl b => a == b
  | .int i, .int j => i == j
  | .str s, .str t => s == t
  | .tup xs, .tup ys => D.sames xs ys
  | .lst xs, .lst ys => D.sames xs ys
  | _, _ => false
def D.sames : List D → List D → Bool
  | [], [] => true
  | x :: xs, y :: ys => D.same x y && D.sames xs ys
  | _, _ => false
end
mutual
theorem D.same_pd : ∀ (a b : D), D.same a b = true → D.pd a = D.pd b
  | .non, b, h => by cases b <;> simp [D.same] at h ⊢
  | .bl _, b, h => by cases b <;> simp [D.same] at h ⊢ <;> simp [h]
  | .int _, b, h => by cases b <;> simp [D.same] at h ⊢ <;> simp [h]
  | .str _, b, h => by cases b <;> simp [D.same] at h ⊢ <;> simp [h]
  | .tup xs, b, h => by
    cases b <;> simp [D.same] at h ⊢
    simp only [D.pd, D.sames_pd xs _ h]
  | .lst xs, b, h => by
    cases b <;> simp [D.same] at h ⊢
    simp only [D.pd, D.sames_pd xs _ h]
  | .dct _, _, h => by simp [D.same] at h
  | .ins _ _, _, h => by simp [D.same] at h
  | .loc _, _, h => by simp [D.same] at h
  | .cls _, _, h => by simp [D.same] at h
  | .exn _, _, h => by simp [D.same] at h
  | .lam _ _, _, h => by simp [D.same] at h
  | .scr _, _, h => by simp [D.same] at h
  | .ty _, _, h => by simp [D.same] at h
theorem D.sames_pd : ∀ (a b : List D), D.sames a b = true → D.pds a = D.pds b
  | [], [], _ => rfl
  | [], _ :: _, h => by simp [D.sames] at h
  | _ :: _, [], h => by simp [D.sames] at h
  | x :: xs, y :: ys, h => by
    simp only [D.sames, Bool.and_eq_true] at h
    simp only [D.pds, D.same_pd x y h.1, D.sames_pd xs ys h.2]
end
end
end MP
end L2

set_option Elab.async false
set_option linter.all false
set_option maxRecDepth 100000
set_option maxHeartbeats 2000000
namespace L2
namespace MP
open PySem PySem.Spec PyProof.Rows
section
variable {g : GX} {N : List Str} {sc : SC} {k : Nat} {W : XW} {σ : St} {G : GP} {ι : List Addr} {H : Hp} {h : Hm} {ev : Ev} {w : World} {K : PySem.W.Frag} {ca : Nat → Option Addr}
mutual
theorem D.pd_nodict : ∀ (d : D) (p : PyData), D.pd d = some p → p.hasDict = false
  | .non, p, h => by simp [D.pd] at h; subst h; simp [PyData.hasDict]
  | .bl b, p, h => by simp [D.pd] at h; subst h; simp [PyData.hasDict]
  | .int i, p, h => by simp [D.pd] at h; subst h; simp [PyData.hasDict]
  | .str s, p, h => by simp [D.pd] at h; subst h; simp [PyData.hasDict]
  | .tup xs, p, h => by
    simp only [D.pd, Option.map_eq_some_iff] at h
    obtain ⟨ps, e, rfl⟩ := h
    simp only [PyData.hasDict]
    exact D.pds_nodict xs ps e
  | .lst xs, p, h => by
    simp only [D.pd, Option.map_eq_some_iff] at h
    obtain ⟨ps, e, rfl⟩ := h
    simp only [PyData.hasDict]
    exact D.pds_nodict xs ps e
  | .dct _, _, h => by simp [D.pd] at h
  | .ins _ _, _, h => by simp [D.pd] at h
  | .loc _, _, h => by simp [D.pd] at h
  | .cls _, _, h => by simp [D.pd] at h
  | .exn _, _, h => by simp [D.pd] at h
  | .lam _ _, _, h => by simp [D.pd] at h
  | .scr _, _, h => by simp [D.pd] at h
  | .ty _, _, h => by simp [D.pd] at h
theorem D.pds_nodict : ∀ (d : List D) (p : List PyData), D.pds d = some p → PyData.hasDictAll p = false
  | [], p, h => by simp [D.pds] at h; subst h; simp [PyData.hasDictAll]
  | x :: xs, p, h => by
    simp only [D.pds] at h
    split at h
    · rename_i e1 e2
      cases h
      simp only [PyData.hasDictAll, D.pd_nodict x _ e1, D.pds_nodict xs _ e2, Bool.or_self]
    · cases h
end
def rRepr (K : PySem.W.Frag) : List V → Hp → VK → Prop := fun vs H Q => ∃ x p, vs = [x] ∧ Dp K H x p ∧ p.showable = true ∧ p.hasDict = false ∧ p.depth ≤ 50 ∧ p.shown.length ≤ sizeLine ∧ Q (.str p.shown) H
theorem call_reprD {X : Cx} (hg : X.A.guards = some []) (hu : X.A.units + 64 < cLine) : CallR X (.builtin "repr") (rRepr X.K) := fun pins s σ H vs us Q I r h => by
  obtain ⟨x, p, rfl, hd, hs, hn, hdep, hl, q⟩ := h
  cases r with
  | @cons _ u _ _ r rt =>
    cases rt
    obtain ⟨as, rd⟩ := Dp.reads I p x u hd r
    cases rd with
    | none => exact P.repr_of_none ⟨.str _, H, I.tok _, ⟨_, rfl⟩, q⟩
    | bool b => exact P.repr_of_bool ⟨.str _, H, I.tok _, ⟨_, rfl⟩, q⟩
    | int i t => exact P.repr_of_int (by simpa [PyData.showable] using hs) ⟨.str _, H, I.tok _, ⟨_, rfl⟩, q⟩
    | str z t => exact P.repr_of_str ⟨.str _, H, I.tok _, ⟨_, rfl⟩, q⟩ hl
    | list h1 h2 h3 h4 => exact repr_of_reads' (.list h1 h2 h3 h4) hs (fun z => by rw [hn] at z; cases z) hg (by omega) (fun _ _ e => e) (fun h' u tk hk => ⟨.str _, H, I.kept hk, ⟨_, rfl⟩, q⟩) hl
    | tuple h1 h2 h3 h4 => exact repr_of_reads' (.tuple h1 h2 h3 h4) hs (fun z => by rw [hn] at z; cases z) hg (by omega) (fun _ _ e => e) (fun h' u tk hk => ⟨.str _, H, I.kept hk, ⟨_, rfl⟩, q⟩) hl
    | dict h1 h2 h3 h4 h5 => simp [PyData.hasDict] at hn
/-- may be shown, the text short enough -/
def showOk (d : D) : Bool := match D.pd d with
  | some p => p.showable && PyData.layable0 p && p.intsShort 13 && decide (p.depth ≤ 50)
  | none => false
theorem showOk_ok {d : D} (h : showOk d = true) : ∃ p, D.pd d = some p ∧ p.showable = true ∧ p.hasDict = false ∧ p.depth ≤ 50 ∧ p.shown.length ≤ sizeLine := by
  unfold showOk at h
  cases e : D.pd d with
  | none => rw [e] at h; cases h
  | some p =>
    rw [e] at h
    simp only [Bool.and_eq_true, decide_eq_true_eq] at h
    exact ⟨p, rfl, h.1.1.1, D.pd_nodict d p e, h.2, PyData.shown_fits_of_layable0 (B := 13) (by omega) (by omega) h.1.1.2 h.1.2⟩
/-- repr(a) == repr(b), where the two are the same -/
def mSame (a b : ME) : ME := fun e h => (a e h).bind fun x h1 => if showOk (deref h1 x) = true then (b e h1).bind fun y h2 => if D.same (deref h1 x) (deref h2 y) = true then .ok (.bl true) h2 else .bad else .bad
theorem se_same {a b : Expr} {ma mb : ME} {p1 p2 c1 c2 pos : Pos} (ha : SE g N sc k a ma) (hb : SE g N sc k b mb) (hm : g.mg "repr" = none) (hg : sc.names.lookup ("repr" : Str) = some .globalImplicit := by rfl) (na : notStar a = true := by rfl) (nb : notStar b = true := by rfl)
    (hmk : behindInMarks .Eq (.Call (.Name "repr" p2) [b] [] c2) = false := by first | exact nomark _ | rfl) : SE g N sc k (.Compare (.Call (.Name "repr" p1) [a] [] c1) [.Eq] [.Call (.Name "repr" p2) [b] [] c2] pos) (mSame ma mb) := fun X W c => by
  have one : ∀ {e : Expr} {m : ME} {p cp : Pos}, SE g N sc k e m → notStar e = true → PE X (.Call (.Name "repr" p) [e] [] cp) (tCB (rRepr X.K) (tA g W (aCons m aNil))) := fun he hn => pe_callB (call_reprD c.gd c.u64) (c.gl hg) (by rw [c.em]; exact hm) (by first | exact PyProof.Rows.boot_repr | decide +kernel) (sa_cons he sa_nil hn X W c) (by decide) (by decide) (star_no hn) rfl
  refine (pe_cmpR op_eq (one ha na) (one hb nb) hmk).imp fun σ H Q q => ?_
  obtain ⟨G, ι, e, h, rs, rh, p⟩ := q
  refine ⟨G, ι, e, h, rs, rh, ?_⟩
  unfold mSame at p
  show PostR g W σ (RpA g) G ι (aCons ma aNil e h) _
  unfold aCons
  cases ea : ma e h with
  | exc x h1 => rw [ea] at p; exact p
  | bad => rw [ea] at p; exact p
  | ok v h1 =>
    rw [ea] at p
    intro G1 ι1 H1 xs gr rh1 rxs
    cases rxs with
    | cons rx rt =>
      cases rt
      rename_i x
      have p1 : PostR g W σ (RpE g) G ι (if showOk (deref h1 v) = true then (mb e h1).bind fun y h2 => if D.same (deref h1 v) (deref h2 y) = true then .ok (.bl true) h2 else .bad else .bad) Q := p
      split at p1
      · rename_i hs
        obtain ⟨pp, e1, s1, s2, s3, s4⟩ := showOk_ok hs
        refine ⟨x, pp, rfl, by rw [c.eK]; exact dp_deref rh1 rx e1, s1, s2, s3, s4, ?_⟩
        refine ⟨G1, ι1, e, h1, rs.mono gr.s gr.p, rh1, ?_⟩
        show PostR g W σ (RpA g) G1 ι1 (aCons mb aNil e h1) _
        unfold aCons
        have p2 := PostR.grow gr p1
        cases eb : mb e h1 with
        | exc y h2 => rw [eb] at p2; exact p2
        | bad => rw [eb] at p2; exact p2
        | ok v2 h2 =>
          rw [eb] at p2
          intro G2 ι2 H2 ys gr2 rh2 rys
          cases rys with
          | cons ry rt =>
            cases rt
            rename_i y
            have p3 : PostR g W σ (RpE g) G1 ι1 (if D.same (deref h1 v) (deref h2 v2) = true then .ok (.bl true) h2 else .bad) Q := p2
            split at p3
            · rename_i hd
              have e2 : D.pd (deref h2 v2) = some pp := by rw [← D.same_pd _ _ hd]; exact e1
              refine ⟨y, pp, rfl, by rw [c.eK]; exact dp_deref rh2 ry e2, s1, s2, s3, s4, rfl, ?_⟩
              rw [decide_eq_true rfl]
              exact p3 G2 ι2 H2 _ gr2 rh2 (.bl _)
            · exact p3.elim
      · exact p1.elim
end
end MP
namespace MP
open PySem PySem.Spec PyProof.Rows
/-- the law's call, from a promise that holds where nothing is being shown -/
theorem law_callG {P : Program} {w : World} {K : PySem.W.Frag} {mg mb : Str → Option Value} {CX : CXT} {k : Nat} {fa a : Addr} {fd : FuncData} {x : Str} {s₁ : Shared} {vs : List Value} {ns : List Int}
    (KX : K.In s₁.heap) (hns : s₁.heap.Ns mainGlobals mg) (hb : s₁.heap.Ns builtinsNs mb) (hbb : ∀ x : Str, x ≠ "__name__" → mb x = bootBuiltins x) (hlim : s₁.heap.NoLimit) (hg : s₁.gens = #[])
    (ha : s₁.heap.get? a = some { cls := .type "list", data := .seq vs.toArray }) (hi : IntsAre vs ns) (hl : ns.length ≤ sizeLine) (hr : Room k callerA)
    (F : ∀ base : Heap, K.In base → base.Ns mainGlobals mg → ∃ sp : Sp, FnG P w K mg base CX k fa fd [x] sp ∧ ∀ H : Hp, Only H → SqL K H a (ns.map V.int) → sp [.ref a] H (fun v _ => v = .bl true) fun _ _ _ => False) (hbind : ∀ (s : Shared) (u : Value), BindsTo s fd ⟨[u], []⟩ [(x, u)])
    (hCX : ∀ H e s', CX [] H s₁ (fun _ _ _ => False) e s' → False) :
    codeAny (model P w) callerA (.call (.ref fa) ⟨[.ref a], []⟩) (fun r s' => r = .ok (.ret (.bool true)) ∧ OldK s₁.heap s'.heap ∧ s'.os = s₁.os ∧ AllBare s'.gens) s₁ := by
  have rv := vals_ints hi
  have lenV := hi.length
  -- from an abstract heap in which nothing but the script may be tracked
  have core : ∀ H : Hp, Only H → SqL K H a (ns.map V.int) → HOk P w H s₁.heap → (∀ b, H b ≠ none → b = a) → (H a ≠ none → K.lookup a = none) →
      codeAny (model P w) callerA (.call (.ref fa) ⟨[.ref a], []⟩) (fun r s' => r = .ok (.ret (.bool true)) ∧ OldK s₁.heap s'.heap ∧ s'.os = s₁.os ∧ AllBare s'.gens) s₁ := by
    intro H hO hS hok hA hK
    have base_of : ∀ {b : Addr} {o : Obj}, s₁.heap.get? b = some o → H b = none → (hidT s₁.heap H).get? b = some o := fun e n => hidT_get e n
    have noA : ∀ {b : Addr} {o : Obj} {es : Array DictEntry} {ep : Nat}, s₁.heap.get? b = some o → o.data = .dict es ep → H b = none := fun {b o es ep} e d => by
      cases q : H b with
      | none => rfl
      | some u =>
        have e' : b = a := hA b (by rw [q]; simp)
        subst e'
        rw [ha] at e; cases e
        have d' : Data.seq vs.toArray _ = Data.dict es ep := d
        cases d'
    have nsK : ∀ {b : Addr} {m : Str → Option Value}, s₁.heap.Ns b m → (hidT s₁.heap H).Ns b m := fun {b m} ⟨o, es, ep, e, d, r⟩ => ⟨o, es, ep, base_of e (noA e d), d, r⟩
    have hKb : K.In (hidT s₁.heap H) := fun b o e => base_of (KX b o e) (by
      cases q : H b with
      | none => rfl
      | some u =>
        have e' : b = a := hA b (by rw [q]; simp)
        subst e'
        rw [hK (by rw [q]; simp)] at e; cases e)
    have hM : Mod K mg (hidT s₁.heap H) := ⟨hKb, nsK hns, ⟨mb, nsK hb, hbb⟩, let ⟨mc, h1, h2⟩ := hlim; ⟨mc, nsK h1, h2⟩⟩
    have e0 : Env0 P w K mg (hidT s₁.heap H) callerA [] s₁ H := ⟨rfl, hM, fun b o e => of_hidT e, Nat.le_of_eq (hidT_size _ _), trivial, fun b hb => absurd (show b ∈ ([] : List Addr) from hb) (by simp), hok, .of_eq hg⟩
    obtain ⟨sp, hG, hsp⟩ := F _ hKb (nsK hns)
    refine codeAny_mono (hG.run callerA [] s₁ H ⟨[.ref a], []⟩ [.ref a] [.ref a] _ _ hr rfl e0 (hbind s₁ (.ref a)) (.cons rfl .nil) (hsp H hO hS)) fun r s' h => ?_
    cases r with
    | error e => exact (hCX H e s' h).elim
    | ok fl =>
      cases fl with
      | next => exact False.elim h
      | brk => exact False.elim h
      | cont => exact False.elim h
      | ret u =>
        obtain ⟨v, H', os, bare, un, hok', r', q⟩ := h
        have q' : v = .bl true := q
        subst q'
        obtain rfl : u = Value.bool true := r'
        refine ⟨rfl, OldK.of_keep fun b o e => ?_, os, bare⟩
        cases q : H b with
        | none => exact un.keep b o e q (by intro z; exact absurd (show b ∈ ([] : List Addr) from z) (by simp)) (by simp)
        | some u =>
          rcases hO b with z | ⟨ob, xs, z⟩
          · rw [q] at z; cases z
          · have z2 := un.frzs b ob _ z
            obtain ⟨e1, _⟩ := hok b _ z
            obtain ⟨e2, _⟩ := hok' b _ z2
            rw [e] at e1; cases e1
            exact e2
  cases hk : K.lookup a with
  | some o =>
    -- the script is one of the module's own objects
    have e := KX a o hk
    rw [ha] at e
    cases e
    refine core (fun _ => none) (fun _ => .inl rfl) (.inr ⟨_, vs.toArray, _, hk, rfl, rfl, rfl, by rw [List.size_toArray, lenV]; exact hl, by simpa using rv⟩) (fun b u z => by have z' : (none : Option HO) = some u := z; cases z') (fun b z => absurd rfl z) fun z => absurd rfl z
  | none =>
    refine core (fun b => if b = a then some (.frz { cls := .type "list", data := .seq vs.toArray } (.lst (ns.map V.int))) else none) (fun b => ?_) (.inl (.inr ⟨{ cls := .type "list", data := .seq vs.toArray }, if_pos rfl⟩)) (fun b u z => ?_) (fun b z => ?_) fun _ => hk
    · by_cases hb : b = a
      · exact .inr ⟨_, _, if_pos hb⟩
      · exact .inl (if_neg hb)
    · by_cases hb : b = a
      · have z' := (if_pos hb).symm.trans z
        cases z'
        subst hb
        exact ⟨ha, by rw [List.length_map]; exact hl, vs, _, rv, ha⟩
      · have z' := (if_neg hb).symm.trans z
        cases z'
    · by_cases hb : b = a
      · exact hb
      · exact absurd (if_neg hb) z

/-- the goal that k_head leaves -/
theorem walk_ofG {l : PySem.W.OpenLaw} {n k : Nat} {q : Program} {loose : List Str} {XP : (Str → Option Value) → Heap → Prop} {YP : World → Heap → Prop} {d : DefRec} {K : Params → PySem.W.Frag} {CX : World → CXT} {x : Str}
    (hn : l.most = some n) (hn2 : n ≤ sizeLine) (hdf : d.params.defaults = []) (hr : Room k callerA)
    (hY : ∀ (w : World) (h : Heap), YP w h → (K w.params).In h)
    (F : ∀ (w : World) (mg : Str → Option Value) (fa : Addr) (h : Heap), (K w.params).In h → h.Ns mainGlobals mg → mg d.name = some (.ref fa) →
      ∃ fd : FuncData, (∀ (s : Shared) (u : Value), BindsTo s fd ⟨[u], []⟩ [(x, u)]) ∧
        ∀ base : Heap, (K w.params).In base → base.Ns mainGlobals mg → ∃ sp : Sp, FnG l.prog w (K w.params) mg base (CX w) k fa fd [x] sp ∧
          ∀ (H : Hp) (a : Addr) (ns : List Int), ns.length ≤ n → Only H → SqL (K w.params) H a (ns.map V.int) → sp [.ref a] H (fun v _ => v = .bl true) fun _ _ _ => False)
    (hCX : ∀ (w : World) (H : Hp) (s : Shared) (e : Value) (s' : Shared), CX w [] H s (fun _ _ _ => False) e s' → False) :
    PySem.W.WalkO q loose XP YP l.row.toRowW d [] (fun f vs => PySem.call f vs) := by
  refine Att.attach_call hn hdf fun w s₀ s₁ mg mb fa o pm cd doc a vs ns G Y ho hd hcd hmg hobj hints hlen hg => ?_
  have KX := hY w _ Y
  obtain ⟨fd, hb, hF⟩ := F w mg fa _ KX G.T.g hmg
  exact law_callG KX G.T.g G.T.b G.T.builtins G.T.nolimit hg hobj hints (Nat.le_trans hlen hn2) hr (fun base h1 h2 => let ⟨sp, z1, z2⟩ := hF base h1 h2; ⟨sp, z1, fun H hO hS => z2 H a ns hlen hO hS⟩) hb fun H e s' => hCX w H s₁ e s'
end MP
end L2

set_option Elab.async false
set_option linter.all false
set_option maxRecDepth 100000
set_option maxHeartbeats 2000000
namespace L2
namespace MP
open PySem PySem.Spec PyProof.Rows
section
variable {g : GX} {N : List Str} {sc : SC} {k : Nat} {W : XW} {σ : St} {G : GP} {ι : List Addr} {H : Hp} {h : Hm} {ev : Ev} {w : World} {K : PySem.W.Frag} {ca : Nat → Option Addr}
/-! ### is True, is not True; list + list -/
def fIsB : D → D → Hm → Res D
  | .bl a, .bl b, h => .ok (.bl (decide (a = b))) h
  | a, .non, h => .ok (.bl (D.isNon a)) h
  | _, _, _ => .bad
def fIsNB : D → D → Hm → Res D
  | .bl a, .bl b, h => .ok (.bl (!decide (a = b))) h
  | a, .non, h => .ok (.bl (!D.isNon a)) h
  | _, _, _ => .bad
theorem o_isB : ∀ X W, At g N sc k X W → ∃ r, OpR X (compareOp .Is) r ∧ Ok2 g r fIsB := fun X W c => ⟨_, OpR.or op_is_bl op_isN, fun W σ G ι H h a b x y Q rh ra rb p => by
  cases rb with
  | bl b =>
    cases ra with
    | bl a => exact .inl ⟨a, b, rfl, rfl, PostR.here (v := D.bl (decide (a = b))) p rh (.bl _)⟩
    | _ => exact p.elim
  | non => exact .inr ⟨rfl, by rw [isNon_iff ra]; exact PostR.here (v := D.bl (D.isNon a)) (by cases a <;> exact p) rh (Rep.bl _)⟩
  | _ => exact absurd p (by cases a <;> simp [fIsB, PostR])⟩
theorem o_isNB : ∀ X W, At g N sc k X W → ∃ r, OpR X (compareOp .IsNot) r ∧ Ok2 g r fIsNB := fun X W c => ⟨_, OpR.or op_isnot_bl op_notN, fun W σ G ι H h a b x y Q rh ra rb p => by
  cases rb with
  | bl b =>
    cases ra with
    | bl a => exact .inl ⟨a, b, rfl, rfl, PostR.here (v := D.bl (!decide (a = b))) p rh (.bl _)⟩
    | _ => exact p.elim
  | non => exact .inr ⟨rfl, by rw [isNon_iff ra]; exact PostR.here (v := D.bl (!D.isNon a)) (by cases a <;> exact p) rh (Rep.bl _)⟩
  | _ => exact absurd p (by cases a <;> simp [fIsNB, PostR])⟩
/-- a list's items, frozen or at its place -/
def lstH (h : Hm) : D → Option (List D)
  | .lst xs => some xs
  | .loc l => match h.get l with
    | some (.lst xs) => some xs
    | _ => none
  | _ => none
theorem lstH_ok (rh : RH w K ca G ι H h) {d : D} {v : V} {ds : List D} (r : Rep w K ca G ι d v) (e : lstH h d = some ds) : ∃ a xs, v = .ref a ∧ H a = some (.lst xs) ∧ RepL w K ca G ι ds xs := by
  cases r with
  | lst q r => simp [lstH] at e; subst e; exact ⟨_, _, rfl, rh.le _ _ q, r⟩
  | loc q =>
    rename_i l a
    cases hl : h.get l with
    | none => simp [lstH, hl] at e
    | some mo =>
      cases mo with
      | lst xs =>
        simp [lstH, hl] at e
        subst e
        obtain ⟨a2, u, e2, _, _, hu, ro⟩ := rh.loc hl (.loc q)
        cases e2
        cases ro with
        | lst rl => exact ⟨_, _, rfl, hu, rl⟩
      | dct _ => simp [lstH, hl] at e
      | ins _ _ => simp [lstH, hl] at e
  | _ => simp [lstH] at e
def fAddG : D → D → Hm → Res D := fun a b h => match lstH h a, lstH h b with
  | some xs, some ys => if xs.length + ys.length ≤ LIM then .ok (.lst (xs ++ ys)) h else .bad
  | _, _ => fAdd a b h
theorem o_addG : ∀ X W, At g N sc k X W → ∃ r, OpR X (binaryOp .Add) r ∧ Ok2 g r fAddG := fun X W c => by
  obtain ⟨r, h1, h2⟩ := o_add (g := g) (N := N) (sc := sc) (k := k) X W c
  refine ⟨_, OpR.or h1 op_cat, fun W σ G ι H h a b x y Q rh ra rb p => ?_⟩
  unfold fAddG at p
  split at p
  · rename_i xs ys e1 e2
    split at p
    · rename_i hz
      obtain ⟨p1, vs, rfl, hH, rl⟩ := lstH_ok rh ra e1
      obtain ⟨p2, us, rfl, hH2, rl2⟩ := lstH_ok rh rb e2
      exact .inr (catL rh rl rl2 hH hH2 hz p)
    · exact p.elim
  · exact .inl (h2 W σ G ι H h a b x y Q rh ra rb p)

/-! ### tables by classes -/
abbrev TBL := List (Nat × FD)
def TBL.f (l : TBL) : Nat → Option FD := fun c => l.lookup c
theorem lookup_cases {i : Nat} {F F' : FD} {l : TBL} {c : Nat} (e : TBL.f ((i, F) :: l) c = some F') : (c = i ∧ F' = F) ∨ TBL.f l c = some F' := by
  unfold TBL.f at *
  rw [List.lookup_cons] at e
  split at e
  · rename_i hc
    exact .inl ⟨by simpa using hc, (Option.some.inj e).symm⟩
  · exact .inr e
theorem DU.nil {j : Nat} {x : Str} : DU g j x (TBL.f []) := ⟨fun c C F e => by cases e⟩
theorem DU.cons {j : Nat} {x : Str} {i : Nat} {F : FD} {l : TBL} {f : Addr} {C0 : Addr} (hC : g.ca i = some C0) (h1 : PySem.W.findIn g.K (.ref C0) x = some (some (.ref f))) (h2 : PySem.W.isFn g.K (.ref f) = true) (fa : FA g j f F) (t : DU g j x (TBL.f l)) : DU g j x (TBL.f ((i, F) :: l)) := ⟨fun c C F' e ec => by
  rcases lookup_cases e with ⟨rfl, rfl⟩ | e
  · rw [hC] at ec; cases ec; exact ⟨f, h1, h2, fa⟩
  · exact t.ok c C F' e ec⟩
theorem PA1.nil {j : Nat} {x : Str} : PA1 g j x (TBL.f []) := ⟨fun c C F e => by cases e⟩
theorem PA1.cons {j : Nat} {x : Str} {i : Nat} {F : FD} {l : TBL} {p f : Addr} {C0 : Addr} (hi : i < 20) (hC : g.ca i = some C0) (po : PropOf g.K C0 x p f) (fa : FA g j f F) (t : PA1 g j x (TBL.f l)) : PA1 g j x (TBL.f ((i, F) :: l)) := ⟨fun c C F' e ec => by
  rcases lookup_cases e with ⟨rfl, rfl⟩ | e
  · rw [hC] at ec; cases ec; exact ⟨hi, p, f, po, fa⟩
  · exact t.ok c C F' e ec⟩
theorem MA1.nil {j : Nat} {x : Str} (hn : ∀ f : Fld, f.nm ≠ x) : MA1 g j x (TBL.f []) := ⟨fun c C F e => (by cases e), hn⟩
theorem MA1.cons {j : Nat} {x : Str} {i : Nat} {F : FD} {l : TBL} {f : Addr} {C0 : Addr} (hi : i < 20) (hC : g.ca i = some C0) (me : Meth g.K C0 x f) (fa : FA g j f F) (t : MA1 g j x (TBL.f l)) : MA1 g j x (TBL.f ((i, F) :: l)) := ⟨fun c C F' e ec => by
  rcases lookup_cases e with ⟨rfl, rfl⟩ | e
  · rw [hC] at ec; cases ec; exact ⟨hi, f, me, fa⟩
  · exact t.ok c C F' e ec, t.nf⟩

/-! ### a def's worth, so many arguments written -/
def fdD (F0 : FD) (n : Nat) (dds : List D) : FD := fun as h => if as.length + dds.length = n then F0 (as ++ dds) h else .bad
theorem FA.of0 {j : Nat} {x qual : Str} {params : Arguments} {body : List Stmt} {scope : Scope} {f : Addr} {fd : FuncData} {N ps : List Str} {m : MS} (F : FunD g.K x qual params body scope [] [] f fd) (S : FnScope N ps scope) (hb : SB g N (dsc scope) j body m)
    (h : ∀ (kV doc pm : Value) (an : Option Addr) (cdv ct : Value) (us : List Value), us.length = ps.length → bindArgs (PySem.W.fnOf x qual params body scope .none kV doc pm an cdv ct) ⟨us, []⟩ = pure (ps.zip us)) : FA g (j + 1) f (fdD (runF N.length m) ps.length []) := by
  have B := F.bindsN (ps := ps) h
  obtain ⟨oc, od, dV, kV, doc, pm, an, cdv, ct, osl, rfl, lk, hcd, _, _⟩ := F.ex
  exact ⟨⟨_, ps, [], [], [], runF N.length m, fn_mp lk hcd S hb, B, .nil, fun _ _ => .nil, fun as h => rfl⟩, F.kp⟩
theorem FA.of1 {j : Nat} {x qual : Str} {params : Arguments} {body : List Stmt} {scope : Scope} {dvs : List V} {f : Addr} {fd : FuncData} {N ps : List Str} {m : MS} (n q : Nat) {dds : List D} (F : FunD g.K x qual params body scope dvs [] f fd) (S : FnScope N ps scope) (hb : SB g N (dsc scope) j body m) (hd : dvs ≠ []) (hn : n + (dvs.length - q) = ps.length)
    (h : ∀ (T : Addr) (kV doc pm : Value) (an : Option Addr) (cdv ct : Value) (us its : List Value), us.length = n → its.length = dvs.length →
      ∃ k, bindArgs (PySem.W.fnOf x qual params body scope (.ref T) kV doc pm an cdv ct) ⟨us, []⟩ = seqItems? (.ref T) >>= k ∧ k (some its.toArray) = pure (ps.zip (us ++ its.drop q)))
    (hr : ∀ G ι, RepL g.w g.K g.ca G ι dds (dvs.drop q)) : FA g (j + 1) f (fdD (runF N.length m) ps.length dds) := by
  obtain ⟨ds, hv, B⟩ := F.binds1 n q hd hn h
  obtain ⟨oc, od, dV, kV, doc, pm, an, cdv, ct, osl, rfl, lk, hcd, _, _⟩ := F.ex
  exact ⟨⟨_, ps, ds, dvs.drop q, dds, runF N.length m, fn_mp lk hcd S hb, B, hv, hr, fun as h => rfl⟩, F.kp⟩
end

/-! ### what is asked of the written part, by one look -/
theorem DefM.is {K : PySem.W.Frag} {d : DefM} (e : d.see K = d.val) (c : d.ok K = true) : ∃ fd, FunD K d.name d.qual d.params d.body d.scope (d.dvs K) [] (d.ad K) fd := by
  unfold DefM.see at e
  unfold DefM.ok at c
  split at c
  · rename_i oc od fd osl lk
    rw [lk] at e
    simp only [Bool.and_eq_true] at c
    obtain ⟨⟨c1, c2⟩, c3⟩ := c
    have e2 : (some (fd.name, fd.qualname, fd.params, fd.body, fd.scope, fd.globals, fd.closure, fd.builtins) : FnVM) = some (d.name, d.qual, d.params, .stmts d.body, d.scope, mainGlobals, [], builtinsNs) := e
    obtain ⟨n1, n2, n3, n4, n5, n6, n7, n8, n9, n10, n11, n12, n13, n14, n15⟩ := fd
    simp only [Option.some.injEq, Prod.mk.injEq] at e2
    obtain ⟨rfl, rfl, rfl, rfl, rfl, rfl, rfl, rfl⟩ := e2
    exact ⟨_, ⟨oc, od, n8, n9, n10, n11, n12, n13, n14, osl, rfl, lk, c2, He.dflB_ok c3, .inl rfl⟩, c1⟩
  · cases c
section
variable {fy : List Fy} {fn : List DefM} {K : PySem.W.Frag}
theorem SaysM.facts (c : SaysM fy fn K) : (fy.all fun f => f.ok K) = true := (He.ba (show ((fy.all fun f => f.ok K) && fn.all fun d => d.ok K) = true from congrArg (fun z : AlM => z.1) c)).1
theorem SaysM.fact (c : SaysM fy fn K) (i : Nat) {f : Fy} (h : fy[i]? = some f := by rfl) : f.ok K = true := List.all_eq_true.mp c.facts f (List.mem_of_getElem? h)
theorem SaysM.def_ (c : SaysM fy fn K) (i : Nat) {d : DefM} (h : fn[i]? = some d := by rfl) : ∃ fd, FunD K d.name d.qual d.params d.body d.scope (d.dvs K) [] (d.ad K) fd := by
  have c2 := (He.ba (show ((fy.all fun f => f.ok K) && fn.all fun d => d.ok K) = true from congrArg (fun z : AlM => z.1) c)).2
  have e : fn.map (fun d => d.see K) = fn.map DefM.val := congrArg (fun z : AlM => z.2) c
  have e2 : (fn.map fun d => d.see K)[i]? = (fn.map DefM.val)[i]? := by rw [e]
  rw [List.getElem?_map, List.getElem?_map, h] at e2
  exact DefM.is (Option.some.inj e2) (List.all_eq_true.mp c2 d (List.mem_of_getElem? h))
theorem dun_ok {x y m : Str} (c : (Fy.dun x y m).ok K = true) : PySem.W.findIn K (.ref (He.ga K x)) m = some (some (.ref (He.ma K (He.ga K y) m))) ∧ PySem.W.isFn K (.ref (He.ma K (He.ga K y) m)) = true := by
  obtain ⟨a, b⟩ := He.ba c
  exact ⟨of_decide_eq_true a, b⟩
theorem prop_ok {x y p : Str} (c : (Fy.prop x y p).ok K = true) : PropOf K (He.ga K x) p (pAd K (He.ga K y) p) (gAd K (He.ga K y) p) := by
  obtain ⟨a, b⟩ := He.ba c
  obtain ⟨b, c⟩ := He.ba b
  obtain ⟨c, d⟩ := He.ba c
  refine ⟨of_decide_eq_true a, of_decide_eq_true b, of_decide_eq_true c, ?_⟩
  unfold gAd
  split at d
  · rename_i z rest e
    rw [e]
    exact ⟨rest, rfl⟩
  · cases d
theorem kit_ok {t c : TN} {b : Bool} (h : (Fy.kit t c b).ok K = true) : PySem.W.kitOne K (t.v K) (c.v K) = some b := of_decide_eq_true h
theorem insx_ok {x : Str} (h : (Fy.insx x).ok K = true) : PySem.W.findIn K (.ref (He.ga K x)) "__class__" = some (some (.builtin "object.__class__")) ∧ PySem.W.specialIn K (.builtin "object.__class__") "__get__" = some (some (.builtin "getset_descriptor.__get__")) ∧
    PySem.W.takesIn K (.builtin "object.__class__") = some true ∧ PySem.W.mroIn K (He.ga K x) (.type "object") = some true := by
  obtain ⟨a, b⟩ := He.ba h
  obtain ⟨b, c⟩ := He.ba b
  obtain ⟨c, d⟩ := He.ba c
  exact ⟨of_decide_eq_true a, of_decide_eq_true b, of_decide_eq_true c, of_decide_eq_true d⟩
theorem etup_ok {p : Str × Option Str} {i : Nat} (h : (Fy.etup p i).ok K = true) {w : World} {ca : Nat → Option Addr} {G : GP} {ι : List Addr} : Rep w K ca G ι (.tup []) (.ref (He.dflAt p i K)) := by
  have h' : etB K (He.dflAt p i K) = true := h
  unfold etB at h'
  split at h'
  · rename_i o t d its n sl e
    obtain ⟨h1, h2⟩ := He.ba h'
    refine .tup (.inr ⟨_, its, n, e, ?_, rfl, ?_, ?_⟩) .nil
    · show Value.type t = _; rw [beq_iff_eq.mp h1]
    · rw [show its = #[] by simpa using h2]; exact Nat.zero_le _
    · rw [show its = #[] by simpa using h2]; exact .nil
  · cases h'
end
theorem allF_mem (f : Fld) : f ∈ allF := by cases f <;> simp [allF]
theorem CF.of {P : Program} {w : World} {K : PySem.W.Frag} {mg : Str → Option Value} {base : Heap} {ins exc : List Str} (h : (cfFacts ins).all (fun f => f.ok K) = true) : CF ⟨P, w, K, mg, base, caOf K ins exc⟩ := by
  have at_ : ∀ {c : Nat} {C : Addr}, caOf K ins exc c = some C → c < 20 → ∃ x ∈ ins, C = He.ga K x := fun {c C} e hc => by
    unfold caOf at e
    rw [if_pos hc, Option.map_eq_some_iff] at e
    obtain ⟨x, h1, h2⟩ := e
    exact ⟨x, List.mem_of_getElem? h1, h2.symm⟩
  refine ⟨fun c C e hc => ?_, fun c C f e hc => ?_⟩
  · obtain ⟨x, hx, rfl⟩ := at_ e hc
    exact He.cls_ok (List.all_eq_true.mp h (.he (.cls x)) (List.mem_flatMap.mpr ⟨x, hx, by simp⟩))
  · obtain ⟨x, hx, rfl⟩ := at_ e hc
    exact He.noat_ok (List.all_eq_true.mp h (.he (.noat x f.nm)) (List.mem_flatMap.mpr ⟨x, hx, by simp; exact ⟨f, allF_mem f, rfl⟩⟩))
/-! ### stores where the block's scope is looked at -/
section
variable {g : GX} {N : List Str} {sc : SC} {k : Nat}
theorem ss_setS (i : Nat) {x : Str} {e : Expr} {m : ME} {pos pos' : Pos} (he : SE g N sc k e m) (hs : ∀ env : Env, env.scope = sc.scope → swapsWith e (some (.Name x pos')) pos.line env = pure false) (hN : N[i]? = some x := by rfl) (hx : Lc sc x := by first | exact Or.inl rfl | exact Or.inr ⟨rfl, rfl⟩) : SS g N sc k (.Assign [.Name x pos'] e pos) (sSet i m) := fun X W c => by
  refine (ps_set (i := i) c.nd (by rw [c.eN]; exact hN) (c.lc hx) (he X W c) (hs X.env c.es) (c.loc hx)).imp fun D σ H q => ?_
  obtain ⟨G, ι, e, h, rs, rh, p⟩ := q
  exact tE_s (f := fun v h1 => .nx (e.set i (some v)) h1) rs rh rfl p fun v h' G' ι' H' x gr rh' rs' rx p' => p' G' ι' H' _ Gr.refl rh' (rs'.set rx)
theorem ss_asgS {tg x : Expr} {m : ME} {vs : List Nat} {t : Tg} {pos : Pos} (he : SE g N sc k x m) (hg : SG g N sc k tg vs t) (hw : ∀ env : Env, env.scope = sc.scope → swappedStores [tg] x env = pure none) (hs : ∀ env, swapsWithSole [tg] x pos.line env = pure false := by intro _; rfl)
    (h1 : ∀ env, (assignEach [tg] env).map (·.2) = [assign tg env] := by intro _; rfl) : SS g N sc k (.Assign [tg] x pos) (sAsg m t) := fun X W c => (ps_asg (he X W c) (hg X W c) (hs _) (hw _ c.es) (h1 _)).imp fun D σ H q => by
  obtain ⟨G, ι, e, h, rs, rh, p⟩ := q
  refine tE_s (f := fun v h1 => match t v e with | some e1 => .nx e1 h1 | none => .bad) rs rh rfl p fun v h' G' ι' H' x gr rh' rs' rx p' => ?_
  cases et : t v e with
  | none => rw [et] at p'; exact p'.elim
  | some e1 =>
    rw [et] at p'
    exact ⟨G', ι', e, h', v, rs', rh', rx, e1, et, fun σ' rs2 _ => p' G' ι' H' σ' Gr.refl rh' rs2⟩
end
theorem FnG.mono {P : Program} {w : World} {K : PySem.W.Frag} {mg : Str → Option Value} {base : Heap} {CX : CXT} {j k : Nat} {f : Addr} {fd : FuncData} {ps : List Str} {sp : Sp} (F : FnG P w K mg base CX j f fd ps sp) (h : j ≤ k) : FnG P w K mg base CX k f fd ps sp :=
  ⟨F.len, fun A outer s H args us vs Q E hr => F.run A outer s H args us vs Q E (hr.mono h)⟩
theorem FA.up {g : GX} {j k : Nat} {f : Addr} {F : FD} (fa : FA g j f F) (h : j ≤ k) : FA g k f F := by
  obtain ⟨⟨fd, ps, ds, dvs, dds, F0, ok, r⟩, kp⟩ := fa
  exact ⟨⟨fd, ps, ds, dvs, dds, F0, ok.mono h, r⟩, kp⟩
/-! ### names of the module -/
section
variable {g : GX} {N : List Str} {sc : SC} {k : Nat}
theorem se_gint {x : Str} {i : Int} {pos : Pos} (h : ∃ t, g.mg x = some (.int i t)) (hg : sc.names.lookup x = some .globalImplicit := by rfl) (hd : (x == ("__debug__" : Str)) = false := by decide) : SE g N sc k (.Name x pos) (mC (.int i)) := by
  obtain ⟨t, e⟩ := h
  exact se_glob e (v := .int i) ⟨t, rfl⟩ (fun _ _ => .int i) hg hd
theorem se_gstr {x z : Str} {pos : Pos} (h : ∃ t, g.mg x = some (.str z t)) (hg : sc.names.lookup x = some .globalImplicit := by rfl) (hd : (x == ("__debug__" : Str)) = false := by decide) : SE g N sc k (.Name x pos) (mC (.str z.cps.toList)) := by
  obtain ⟨t, e⟩ := h
  exact se_glob e (v := .str z) ⟨t, rfl⟩ (fun _ _ => .str _) hg hd
theorem se_gcls {x : Str} {c : Nat} {pos : Pos} (h : ∃ C, g.mg x = some (.ref C) ∧ g.ca c = some C) (hg : sc.names.lookup x = some .globalImplicit := by rfl) (hd : (x == ("__debug__" : Str)) = false := by decide) : SE g N sc k (.Name x pos) (mC (.cls c)) := by
  obtain ⟨C, e, e2⟩ := h
  exact se_glob e (v := .ref C) rfl (fun _ _ => .cls e2) hg hd
end
def tcOk (ins : List Str) : TC → Bool
  | .c n => decide (n < 20) && decide (n < ins.length)
  | _ => true
theorem tcV_tn {K : PySem.W.Frag} {ins exc : List Str} {t : TC} (h : tcOk ins t = true) : tcV (caOf K ins exc) t = some ((tnOf ins t).v K) := by
  cases t with
  | b t => rfl
  | nt => rfl
  | c n =>
    simp only [tcOk, Bool.and_eq_true, decide_eq_true_eq] at h
    show (caOf K ins exc n).map Value.ref = some (Value.ref (He.ga K (ins.getD n "")))
    unfold caOf
    rw [if_pos h.1, List.getElem?_eq_getElem h.2]
    simp [List.getD_eq_getElem?_getD, List.getElem?_eq_getElem h.2]
theorem IsF.of {P : Program} {w : World} {K : PySem.W.Frag} {mg : Str → Option Value} {base : Heap} {ins exc : List Str} {l : List (TC × TC × Bool)} (h : (cfFacts ins).all (fun f => f.ok K) = true) (hl : (isFacts ins l).all (fun f => f.ok K) = true) (ht : (l.all fun z => tcOk ins z.1 && tcOk ins z.2.1) = true) : IsF ⟨P, w, K, mg, base, caOf K ins exc⟩ (tbF l) := by
  refine ⟨fun t c b e => ?_, fun n C e hn => ?_⟩
  · unfold tbF at e
    obtain ⟨z, h1, h2⟩ := Option.map_eq_some_iff.mp e
    have hm := List.mem_of_find?_eq_some h1
    have hz := List.find?_some h1
    simp only [Bool.and_eq_true, decide_eq_true_eq] at hz
    obtain ⟨rfl, rfl⟩ := hz
    have hk := List.all_eq_true.mp ht z hm
    simp only [Bool.and_eq_true] at hk
    refine ⟨_, _, tcV_tn hk.1, tcV_tn hk.2, ?_⟩
    rw [← h2]
    exact kit_ok (List.all_eq_true.mp hl _ (List.mem_map.mpr ⟨z, hm, rfl⟩))
  · have e' : caOf K ins exc n = some C := e
    unfold caOf at e'
    rw [if_pos hn, Option.map_eq_some_iff] at e'
    obtain ⟨x, h1, rfl⟩ := e'
    have hx := List.mem_of_getElem? h1
    exact ⟨He.cls_ok (List.all_eq_true.mp h (.he (.cls x)) (List.mem_flatMap.mpr ⟨x, hx, by simp⟩)), insx_ok (List.all_eq_true.mp h (.insx x) (List.mem_flatMap.mpr ⟨x, hx, by simp⟩))⟩
/-- the goal that the head leaves: the written part is told by the head -/
theorem walk_ofH {l : PySem.W.OpenLaw} {n k : Nat} {q : Program} {loose : List Str} {XP : (Str → Option Value) → Heap → Prop} {YP : World → Heap → Prop} {d : DefRec} {CX : World → CXT} {x : Str}
    (hn : l.most = some n) (hn2 : n ≤ sizeLine) (hdf : d.params.defaults = []) (hr : Room k callerA)
    (F : ∀ (w : World) (mg : Str → Option Value) (fa : Addr) (h : Heap), YP w h → h.Ns mainGlobals mg → mg d.name = some (.ref fa) →
      ∃ (K : PySem.W.Frag) (fd : FuncData), K.In h ∧ (∀ (s : Shared) (u : Value), BindsTo s fd ⟨[u], []⟩ [(x, u)]) ∧
        ∀ base : Heap, K.In base → base.Ns mainGlobals mg → ∃ sp : Sp, FnG l.prog w K mg base (CX w) k fa fd [x] sp ∧
          ∀ (H : Hp) (a : Addr) (ns : List Int), ns.length ≤ n → Only H → SqL K H a (ns.map V.int) → sp [.ref a] H (fun v _ => v = .bl true) fun _ _ _ => False)
    (hCX : ∀ (w : World) (H : Hp) (s : Shared) (e : Value) (s' : Shared), CX w [] H s (fun _ _ _ => False) e s' → False) :
    PySem.W.WalkO q loose XP YP l.row.toRowW d [] (fun f vs => PySem.call f vs) := by
  refine Att.attach_call hn hdf fun w s₀ s₁ mg mb fa o pm cd doc a vs ns G Y ho hd hcd hmg hobj hints hlen hg => ?_
  obtain ⟨K, fd, KX, hb, hF⟩ := F w mg fa _ Y G.T.g hmg
  exact law_callG KX G.T.g G.T.b G.T.builtins G.T.nolimit hg hobj hints (Nat.le_trans hlen hn2) hr (fun base h1 h2 => let ⟨sp, z1, z2⟩ := hF base h1 h2; ⟨sp, z1, fun H hO hS => z2 H a ns hlen hO hS⟩) hb fun H e s' => hCX w H s₁ e s'
end MP
end L2

set_option Elab.async false
set_option linter.all false
set_option maxRecDepth 100000
set_option maxHeartbeats 2000000
namespace L2
namespace MP
open PySem PySem.Spec PyProof.Rows
/-! ### sorting of data -/
def encD (d : D) : PyData := (D.pd d).getD .none
def leD (a b : D) : Bool := PySem.W.dataLe false encD a b
def insD (a : D) : List D → List D
  | [] => [a]
  | y :: ys => if leD a y = true then a :: y :: ys else y :: insD a ys
def sortD : List D → List D
  | [] => []
  | x :: xs => insD x (sortD xs)
theorem leD_tot : PySem.W.TotalLe leD := PySem.W.sortLe_total (PyProof.Rows.listOrd PyProof.Rows.itemOrd) false fun b => PySem.W.keyToks (encD b)
theorem ins_split {a : D} : ∀ {l₁ l₂ : List D}, (∀ b ∈ l₁, leD a b = false) → (∀ b ∈ l₂, leD a b = true) → insD a (l₁ ++ l₂) = l₁ ++ a :: l₂
  | [], [], _, _ => rfl
  | [], y :: ys, _, h => by
    show (if leD a y = true then a :: y :: ys else y :: insD a ys) = _
    rw [if_pos (h y List.mem_cons_self)]; rfl
  | x :: xs, l₂, h1, h2 => by
    show (if leD a x = true then a :: x :: (xs ++ l₂) else x :: insD a (xs ++ l₂)) = _
    rw [if_neg (by rw [h1 x List.mem_cons_self]; exact Bool.false_ne_true), ins_split (fun b hb => h1 b (List.mem_cons_of_mem _ hb)) h2]
    rfl
theorem sortD_eq : ∀ l : List D, sortD l = l.mergeSort leD
  | [] => by simp [sortD]
  | a :: l => by
    have tr : ∀ a b c : D, leD a b = true → leD b c = true → leD a c = true := leD_tot.trans
    have to : ∀ a b : D, (leD a b || leD b a) = true := fun a b => by simpa using leD_tot.total a b
    obtain ⟨l₁, l₂, e1, e2, e3⟩ := List.mergeSort_cons (le := leD) tr to a l
    show insD a (sortD l) = _
    rw [sortD_eq l, e2, e1]
    refine ins_split (fun b hb => by simpa using e3 b hb) fun b hb => ?_
    have pw := List.pairwise_mergeSort (le := leD) tr to (a :: l)
    rw [e1] at pw
    exact (List.pairwise_cons.mp (List.pairwise_append.mp pw).2.1).1 b hb
def headTup : D → Bool
  | .tup (_ :: _) => true
  | _ => false
def noTup : D → Bool
  | .tup _ => false
  | .non => false
  | _ => true
def sortOk (xs : List D) : Bool := xs.all (fun d => D.plain d 50) && (xs.all headTup || xs.all noTup) && (xs.all fun d => xs.all fun d' => PySem.W.alike (encD d) (encD d')) && decide (xs.length ≤ LIM)
structure SortOk (xs : List D) : Prop where
  pd : ∀ d ∈ xs, ∃ p, D.pd d = some p ∧ p.depth ≤ 50 ∧ encD d = p
  al : PySem.W.AllAlike (xs.map encD)
  so : PySem.W.Sortable (xs.map encD)
  le : xs.length ≤ sizeLine
theorem sortOk_ok {xs : List D} (h : sortOk xs = true) : SortOk xs := by
  unfold sortOk at h
  simp only [Bool.and_eq_true, Bool.or_eq_true, List.all_eq_true, decide_eq_true_eq] at h
  obtain ⟨⟨⟨h1, h2⟩, h3⟩, h4⟩ := h
  have pd : ∀ d ∈ xs, ∃ p, D.pd d = some p ∧ p.depth ≤ 50 ∧ encD d = p := fun d hd => by
    obtain ⟨p, e, hp, _⟩ := D.plain_pd d 50 (h1 d hd)
    exact ⟨p, e, hp, by unfold encD; rw [e]; rfl⟩
  refine ⟨pd, fun d hd d' hd' => ?_, ?_, by rw [lim_eq]; exact h4⟩
  · obtain ⟨x, hx, rfl⟩ := List.mem_map.mp hd
    obtain ⟨y, hy, rfl⟩ := List.mem_map.mp hd'
    exact h3 x hx y hy
  · rcases h2 with h2 | h2
    · refine .inl fun d hd => ?_
      obtain ⟨x, hx, rfl⟩ := List.mem_map.mp hd
      obtain ⟨p, e, _, e2⟩ := pd x hx
      have := h2 x hx
      unfold headTup at this
      split at this
      · rename_i a r
        simp only [D.pd, Option.map_eq_some_iff] at e
        obtain ⟨ps, e3, e4⟩ := e
        simp only [D.pds] at e3
        split at e3
        · cases e3; exact ⟨_, _, e2.trans e4.symm⟩
        · cases e3
      · cases this
    · refine .inr fun d hd => ?_
      obtain ⟨x, hx, rfl⟩ := List.mem_map.mp hd
      obtain ⟨p, e, _, e2⟩ := pd x hx
      have := h2 x hx
      rw [e2]
      have key : ∀ x : D, noTup x = true → D.pd x = some p → p ≠ .none ∧ ∀ xs, p ≠ .tuple xs := fun x hx hp => by
        cases x with
        | bl b => cases hp; exact ⟨fun z => (nomatch z), fun _ z => (nomatch z)⟩
        | int b => cases hp; exact ⟨fun z => (nomatch z), fun _ z => (nomatch z)⟩
        | str b => cases hp; exact ⟨fun z => (nomatch z), fun _ z => (nomatch z)⟩
        | lst xs =>
          simp only [D.pd, Option.map_eq_some_iff] at hp
          obtain ⟨ps, _, rfl⟩ := hp
          exact ⟨fun z => (nomatch z), fun _ z => (nomatch z)⟩
        | tup _ => cases hx
        | non => cases hx
        | _ => simp [D.pd] at hp
      exact key x this e
section
variable {g : GX} {N : List Str} {sc : SC} {k : Nat} {W : XW} {σ : St} {G : GP} {ι : List Addr} {H : Hp} {h : Hm} {ev : Ev} {w : World} {K : PySem.W.Frag} {ca : Nat → Option Addr}
/-- u stands for d -/
def RU (w : World) (K : PySem.W.Frag) (ca : Nat → Option Addr) (G : GP) (ι : List Addr) : Value → D → Prop := fun u d => ∃ v, Rep w K ca G ι d v ∧ RelV v u
theorem each_of : ∀ {ds : List D} {xs : List V} {us : List Value}, RepL w K ca G ι ds xs → Vals xs us → PySem.W.EachIs (RU w K ca G ι) us ds
  | _, _, _, .nil, .nil => .nil
  | _, _, _, .cons a t, .cons b r => .cons ⟨_, a, b⟩ (each_of t r)
theorem of_each : ∀ {ds : List D} {us : List Value}, PySem.W.EachIs (RU w K ca G ι) us ds → ∃ xs, RepL w K ca G ι ds xs ∧ Vals xs us
  | _, _, .nil => ⟨[], .nil, .nil⟩
  | _, _, .cons ⟨v, a, b⟩ t => by
    obtain ⟨xs, r1, r2⟩ := of_each t
    exact ⟨v :: xs, .cons a r1, .cons b r2⟩
theorem each_reads {X : Cx} {pins : List (Addr × Obj)} {s : Shared} (I : Inv X pins σ H s) (rh : RH X.w X.K ca G ι H h) : ∀ {ds : List D} {us : List Value}, (∀ d ∈ ds, ∃ p, D.pd d = some p ∧ p.depth ≤ 50 ∧ encD d = p) → PySem.W.EachIs (RU X.w X.K ca G ι) us ds → PySem.W.EachIs (fun v b => ∃ as, Reads s.heap v (encD b) as) us ds
  | _, _, _, .nil => .nil
  | _, _, hp, .cons ⟨v, a, b⟩ t => by
    obtain ⟨p, e1, _, e2⟩ := hp _ List.mem_cons_self
    refine .cons ?_ (each_reads I rh (fun d hd => hp d (List.mem_cons_of_mem _ hd)) t)
    rw [e2]
    exact Dp.reads I p v _ (a.dp rh.le e1) b
def aSort : List V → Hp → (Cx → VK → Prop) := fun _ _ _ _ => True
theorem call_sortD {X : Cx} (hu : X.A.units + 64 < cLine) : CallR X (.builtin "sorted") (fun vs H Q => ∃ ca G ι h d a xs ds, vs = [.ref a] ∧ RH X.w X.K ca G ι H h ∧ SqL X.K H a xs ∧ RepL X.w X.K ca G ι ds xs ∧ d = sortD ds ∧ sortOk ds = true ∧ ∀ p ys, H p = none → RepL X.w X.K ca G ι d ys → Q (.ref p) (upd H p (.lst ys))) := by
  intro pins s σ H vs us Q I r hh
  obtain ⟨ca, G, ι, h, d, a, xs, ds, rfl, rh, hs, rl, rfl, ho, q⟩ := hh
  have ok := sortOk_ok ho
  rw [Vals.ref1 r]
  obtain ⟨its, rv, hl, hz⟩ := I.list hs
  have e := each_of rl rv
  refine PySem.W.sorted_data (enc := encD) hl.isList e (each_reads I rh ok.pd e) ok.al ok.so ok.le (fun b hb => ?_) fun out hlen ho => ?_
  · obtain ⟨p, _, hp, e2⟩ := ok.pd b hb
    rw [e2]; omega
  · rw [show ds.mergeSort (PySem.W.dataLe false encD) = sortD ds from (sortD_eq ds).symm] at ho
    obtain ⟨ys, r1, r2⟩ := of_each ho
    obtain ⟨ep, he'⟩ := PyProof.Rows.sortedAll_at s.heap its out.toArray
    have hlen2 : ys.length ≤ sizeLine := by rw [r2.length, hlen]; exact ok.le
    exact ⟨.ref _, upd H (s.heap.objs.size + 1) (.lst ys), I.laid (t' := s.toks) (fun _ _ => PyProof.Rows.sortedAll_old) (Nat.le_succ _) ⟨hlen2, out, ep, r2, by simpa using he'⟩, rfl, q _ ys (I.hok.fresh (Nat.le_succ _)) r1⟩
/-- sorted(xs), xs a list of data that can be compared: a list that is not changed -/
def fSortD : D → Hm → Res D := fun x h => match rdL h x with
  | some xs => if sortOk xs = true then .ok (.lst (sortD xs)) h else .bad
  | none => .bad
theorem o_sortD : ∀ X W, At g N sc k X W → ∃ r, CallR X (.builtin "sorted") r ∧ OkL g r (f1 fSortD) := fun X W c => ⟨_, call_sortD c.u64, okL1 fun W σ G ι H h d v Q rh r p => by
  unfold fSortD at p
  cases e1 : rdL h d with
  | none => simp only [e1] at p; exact p.elim
  | some xs =>
    simp only [e1] at p
    split at p
    · rename_i ho
      obtain ⟨a, ys, rfl, hs, rl⟩ := rdL_ok rh r e1
      exact ⟨g.ca, G, ι, h, _, a, ys, xs, rfl, by rw [c.eK, c.ew]; exact rh, by rw [c.eK]; exact hs, by rw [c.eK, c.ew]; exact rl, rfl, ho, fun p0 ys' hp rl' => new_lst rh (by rw [c.eK, c.ew] at rl'; exact rl') p p0 hp⟩
    · exact p.elim⟩

/-! ### d.get(k), d.get(k, x) -/
def isDctD (h : Hm) (d : D) : Bool := (rdD h d).isSome
theorem okT_dict : OkT g "dict" isDctD := fun X eK G ι H h d v rh r e => by
  obtain ⟨kvs, e⟩ := Option.isSome_iff_exists.mp e
  obtain ⟨a, es, rfl, hsm, m, hr, re⟩ := rdD_ok rh r e
  intro pins s σ v I rv
  cases rv
  obtain ⟨o, ep, h1, h2, h3⟩ := dict_of I hr
  refine ⟨⟨o, h1, h2.1⟩, fun b eb => ?_⟩
  cases eb
  exact ⟨o, h1, h2.2.1⟩
def fGet : FM := fun d as h => match rdD h d, as with
  | some kvs, [k] => if (isTupD k && kdepth 8 k) = true then (match kget kvs k with | some e => .ok e h | none => .ok .non h) else .bad
  | some kvs, [k, x] => if (isTupD k && kdepth 8 k) = true then (match kget kvs k with | some e => .ok e h | none => .ok x h) else .bad
  | _, _ => .bad
def rGet (X : Cx) : V → List V → Hp → VK → Prop := fun x xs H Q => ∃ ca G ι h d c kvs y z dz, RH X.w X.K ca G ι H h ∧ Rep X.w X.K ca G ι d y ∧ Rep X.w X.K ca G ι c x ∧ rdD h c = some kvs ∧ isTupD d = true ∧ kdepth 8 d = true ∧ (xs = [y] ∧ dz = D.non ∧ z = V.non ∨ xs = [y, z]) ∧ Rep X.w X.K ca G ι dz z ∧ ∀ u, Rep X.w X.K ca G ι ((kget kvs d).getD dz) u → Q u H
theorem mt_getK {X : Cx} (hu : X.A.units + 64 < cLine) : MtR X "dict.get" (rGet X) := by
  intro pins s σ H x xs v us Q I rx rs hh
  obtain ⟨ca, G, ι, hm, d, c, kvs, y, z, dz, rh, rd, rc, ec, ht, hd, hxs, rz, q⟩ := hh
  obtain ⟨a, es, rfl, hsm, m, hr, re⟩ := rdD_ok rh rc ec
  obtain ⟨b, rfl⟩ := key_ref ht rd
  obtain ⟨kd, hk, hdep⟩ := kdepth_ok hd
  obtain ⟨ys, hx, rxx⟩ := dictH_of I rh m hr re
  obtain ⟨f1, f2⟩ := rxx.find hk
  cases rx
  have fin : ∀ (w0 : Value) (tk : Nat), RelV z w0 → EP X pins σ Q (((atKey ys kd).map (·.2)).getD w0) { s with toks := tk } := fun w0 tk rw => by
    cases eg : kget kvs d with
    | none =>
      rw [f2 eg]
      rw [eg] at q
      exact ⟨z, H, I.tok _, rw, q z rz⟩
    | some e =>
      obtain ⟨p, vv, hp, rv, rvv⟩ := f1 e eg
      rw [hp]
      rw [eg] at q
      exact ⟨vv, H, I.tok _, rvv, q vv rv⟩
  rcases hxs with ⟨rfl, rfl, rfl⟩ | rfl
  · cases rs with
    | cons r1 rt =>
      cases rt
      cases r1
      exact PySem.call_meetsIn PySem.F.slot_dict_get hx.typeIs PySem.F.entry_dict_get (PySem.F.args_dict_get_2 _ _) (meetsH_dict_get (nestedKind X.prog X.w) a b hsm) ⟨nested_room hu, kd, ys, ⟨nested_of I rh rd rfl hk, hdep⟩, hx, fin .none _ rfl⟩
  · cases rs with
    | cons r1 rt =>
      cases rt with
      | cons r2 rt =>
        cases rt
        cases r1
        exact PySem.call_meetsIn PySem.F.slot_dict_get hx.typeIs PySem.F.entry_dict_get (PySem.F.args_dict_get_3 _ _ _) (meetsH_dict_get_default (nestedKind X.prog X.w) a b hsm _) ⟨nested_room hu, kd, ys, ⟨nested_of I rh rd rfl hk, hdep⟩, hx, fin _ _ r2⟩
theorem t_get : ∀ X W, At g N sc k X W → ∃ r, MtR X "dict.get" r ∧ OkM g r fGet := fun X W c => ⟨_, mt_getK c.u64, fun W σ G ι H h d as v xs Q rh r ra p => by
  unfold fGet at p
  split at p
  · rename_i kvs ky er
    split at p
    · rename_i hc
      simp only [Bool.and_eq_true] at hc
      cases ra with
      | cons r1 t1 =>
        cases t1
        refine ⟨g.ca, G, ι, h, ky, d, kvs, _, .non, .non, by rw [c.eK, c.ew]; exact rh, by rw [c.eK, c.ew]; exact r1, by rw [c.eK, c.ew]; exact r, er, hc.1, hc.2, .inl ⟨rfl, rfl, rfl⟩, .non, fun u ru => ?_⟩
        rw [c.eK, c.ew] at ru
        cases eg : kget kvs ky with
        | none => rw [eg] at p ru; exact p.here rh ru
        | some e => rw [eg] at p ru; exact p.here rh ru
    · exact p.elim
  · rename_i kvs ky x0 er
    split at p
    · rename_i hc
      simp only [Bool.and_eq_true] at hc
      cases ra with
      | cons r1 t1 =>
        cases t1 with
        | cons r2 t2 =>
          cases t2
          refine ⟨g.ca, G, ι, h, ky, d, kvs, _, _, x0, by rw [c.eK, c.ew]; exact rh, by rw [c.eK, c.ew]; exact r1, by rw [c.eK, c.ew]; exact r, er, hc.1, hc.2, .inr rfl, by rw [c.eK, c.ew]; exact r2, fun u ru => ?_⟩
          rw [c.eK, c.ew] at ru
          cases eg : kget kvs ky with
          | none => rw [eg] at p ru; exact p.here rh ru
          | some e => rw [eg] at p ru; exact p.here rh ru
    · exact p.elim
  · exact p.elim⟩

/-! ### enumerate(xs) -/
def enD (ds : List D) : List D := ds.zipIdx.map fun p => D.tup [.int (p.2 : Nat), p.1]
def iEnumD (a : ME) : MI := fun e h => (a e h).bind fun x h1 => match x with
  | .lst xs => .ok (enD xs) h1
  | _ => .bad
theorem it_enum {a : Addr} {xs : List V} {ds : List D} (hq : G.f a = some (.lst xs)) (rl : RepL g.w g.K g.ca G ι ds xs) : ItOk g (Ite g.K a) G ι (enD ds) := fun G1 ι1 H1 h1 grs grp rh => by
  have hS : SqL g.K H1 a xs := SqL.of (rh.le _ _ (grs _ _ hq))
  have r1 := rl.mono grs grp
  refine ⟨⟨xs, hS, by unfold enD; rw [List.length_map, List.length_zipIdx]; exact Nat.le_of_eq r1.length.symm⟩, fun i d hd => ?_⟩
  unfold enD at hd
  rw [List.getElem?_map, Option.map_eq_some_iff] at hd
  obtain ⟨⟨d0, j⟩, e1, rfl⟩ := hd
  rw [List.getElem?_zipIdx, Option.map_eq_some_iff] at e1
  obtain ⟨d1, e2, e3⟩ := e1
  cases e3
  obtain ⟨v, hv, rv⟩ := r1.get' e2
  refine ⟨⟨xs, v, hS, hv⟩, fun x H2 y => ?_⟩
  obtain ⟨T, z, rfl, hT, rfl, hz⟩ := y
  have e4 := hz xs hS
  rw [hv] at e4; cases e4
  obtain ⟨gr, rh'⟩ := rh.fz (o := .tup [V.int (i : Nat), v]) hT
  refine ⟨_, gr, rh', .tup (.inl upd_same) (.cons (by simpa using Rep.int (w := g.w) (K := g.K) (ca := g.ca) (G := G1.put T (.tup [V.int (i : Nat), v])) (ι := ι1) ((i : Nat) : Int)) (.cons (rv.mono gr.s gr.p) .nil))⟩
end
end MP
end L2

set_option Elab.async false
set_option linter.all false
set_option maxRecDepth 100000
set_option maxHeartbeats 2000000
namespace L2
namespace MP
open PySem PySem.Spec PyProof.Rows
section
variable {g : GX} {N : List Str} {sc : SC} {k : Nat} {W : XW} {σ : St} {G : GP} {ι : List Addr} {H : Hp} {h : Hm} {ev : Ev} {w : World} {K : PySem.W.Frag} {ca : Nat → Option Addr}
theorem si_enum {e : Expr} {a : ME} {p pos tpos : Pos} {elts : List Expr} {kk : Nat} (ha : SE g N sc k e a) (hm : g.mg "enumerate" = none) (hg : sc.names.lookup ("enumerate" : Str) = some .globalImplicit := by rfl) (hn : notStar e = true := by rfl) : SI g N sc k (.Tuple elts kk tpos) (.Call (.Name "enumerate" p) [e] [] pos) (iEnumD a) := fun X W c =>
  (pi_enum (c.gl hg) (by rw [c.em]; exact hm) (sa_cons ha sa_nil hn X W c) (star_no hn)).imp fun σ H R q => by
    obtain ⟨G, ι, e, h, rs, rh, p⟩ := q
    refine ⟨G, ι, e, h, rs, rh, ?_⟩
    unfold iEnumD at p
    show PostR g W σ (RpA g) G ι (aCons a aNil e h) _
    unfold aCons
    cases ea : a e h with
    | exc x h1 => rw [ea] at p; exact p
    | bad => rw [ea] at p; exact p
    | ok v h1 =>
      rw [ea] at p
      intro G1 ι1 H1 xs gr rh1 rxs
      cases rxs with
      | cons rx rt =>
        cases rt
        have p1 := PostR.grow gr p
        cases rx with
        | lst q rl => exact ⟨_, _, rfl, by rw [c.eK]; exact SqL.of (rh1.le _ _ q), by rw [c.eK]; exact p1 G1 ι1 H1 _ Gr.refl rh1 (it_enum q rl)⟩
        | _ => exact p1.elim
/-! ### isinstance(x, (C, D)) -/
def clsDs : List D → Option (List TC)
  | [] => some []
  | d :: r => match clsD d, clsDs r with
    | some c, some cs => some (c :: cs)
    | _, _ => none
def anyT (tbl : TC → TC → Option Bool) (t : TC) : List TC → Option Bool
  | [] => some false
  | c :: r => match tbl t c with
    | some true => some true
    | some false => anyT tbl t r
    | none => none
def fIsiT (tbl : TC → TC → Option Bool) : D → D → Hm → Res D := fun x c h => match c with
  | .tup cs => (match tcOf h x, clsDs cs with
    | some t, some us => if (okTC t && !us.isEmpty) = true then (match anyT tbl t us with
      | some b => .ok (.bl b) h
      | none => .bad) else .bad
    | _, _ => .bad)
  | _ => fIsi tbl x c h
theorem anyT_ok {tbl : TC → TC → Option Bool} (f : IsF g tbl) {t : TC} {vt : Value} (ht : tcV g.ca t = some vt) : ∀ {us : List TC} {b : Bool} {ds : List D} {xs : List V}, clsDs ds = some us → RepL w K g.ca G ι ds xs → anyT tbl t us = some b → ∃ vs, Paired ClsV xs vs ∧ PySem.W.kitAny g.K vt vs = some b
  | _, b, [], _, e, .nil, ha => by cases e; exact ⟨[], .nil, ha⟩
  | us, b, d :: ds, _, e, .cons r rl, ha => by
    simp only [clsDs] at e
    cases ec : clsD d with
    | none => rw [ec] at e; cases e
    | some c =>
      cases er : clsDs ds with
      | none => rw [ec, er] at e; cases e
      | some cs =>
        rw [ec, er] at e
        cases e
        simp only [anyT] at ha
        cases et : tbl t c with
        | none => rw [et] at ha; cases ha
        | some v =>
          obtain ⟨vt', vc, h1, h2, h3⟩ := f.one t c v et
          rw [ht] at h1; cases h1
          have hc := clsV_of r ec h2
          rw [et] at ha
          cases v with
          | true =>
            cases ha
            -- the rest's classes are values all the same
            have rest : ∀ {ds : List D} {xs : List V} {cs : List TC}, clsDs ds = some cs → RepL w K g.ca G ι ds xs → (∀ c ∈ cs, ∃ v, tcV g.ca c = some v) → ∃ vs, Paired ClsV xs vs := by
              intro ds
              induction ds with
              | nil => intro xs cs e r _; cases r; exact ⟨[], .nil⟩
              | cons d ds ih =>
                intro xs cs e r hv
                cases r with
                | cons r rl =>
                  simp only [clsDs] at e
                  cases e1 : clsD d with
                  | none => rw [e1] at e; cases e
                  | some c' =>
                    cases e2 : clsDs ds with
                    | none => rw [e1, e2] at e; cases e
                    | some cs' =>
                      rw [e1, e2] at e
                      cases e
                      obtain ⟨v, hv1⟩ := hv c' List.mem_cons_self
                      obtain ⟨vs, hvs⟩ := ih e2 rl fun c hc => hv c (List.mem_cons_of_mem _ hc)
                      exact ⟨v :: vs, .cons (clsV_of r e1 hv1) hvs⟩
            have all : ∀ c ∈ cs, ∃ v, tcV g.ca c = some v := by
              intro c' hc'
              cases c' with
              | b t => exact ⟨_, rfl⟩
              | nt => exact ⟨_, rfl⟩
              | c n =>
                -- a class that stands as a value has a place
                have : ∀ {ds : List D} {xs : List V} {cs : List TC}, clsDs ds = some cs → RepL w K g.ca G ι ds xs → TC.c n ∈ cs → ∃ v, tcV g.ca (.c n) = some v := by
                  intro ds
                  induction ds with
                  | nil => intro xs cs e r hm; cases e; cases hm
                  | cons d ds ih =>
                    intro xs cs e r hm
                    cases r with
                    | cons r rl =>
                      simp only [clsDs] at e
                      cases e1 : clsD d with
                      | none => rw [e1] at e; cases e
                      | some c' =>
                        cases e2 : clsDs ds with
                        | none => rw [e1, e2] at e; cases e
                        | some cs' =>
                          rw [e1, e2] at e
                          cases e
                          rcases List.mem_cons.mp hm with z | z
                          · subst z
                            cases r with
                            | cls hC => cases e1; exact ⟨.ref _, by simp only [tcV, hC]; rfl⟩
                            | _ => cases e1
                          · exact ih e2 rl z
                exact this er rl hc'
            obtain ⟨vs, hvs⟩ := rest er rl all
            exact ⟨vc :: vs, .cons hc hvs, by simp [PySem.W.kitAny, h3]⟩
          | false =>
            obtain ⟨vs, h4, h5⟩ := anyT_ok f ht er rl ha
            exact ⟨vc :: vs, .cons hc h4, by simp [PySem.W.kitAny, h3, h5]⟩
theorem o_isiT {tbl : TC → TC → Option Bool} (f : IsF g tbl) : ∀ X W, At g N sc k X W → ∃ r, CallR X (.builtin "isinstance") r ∧ OkL g r (f2 (fIsiT tbl)) := fun X W c => by
  obtain ⟨r1, a1, b1⟩ := o_isi (N := N) (sc := sc) (k := k) f X W c
  refine ⟨_, CallR.or' a1 (CallR.or' call_isiT call_isiK), okL2 fun W σ G ι H h a b x y Q rh ra rb p => ?_⟩
  unfold fIsiT at p
  split at p
  · rename_i cs
    split at p
    · rename_i t us e1 e2
      split at p
      · rename_i ht
        simp only [Bool.and_eq_true] at ht
        split at p
        · rename_i v ev
          cases rb with
          | tup q rl =>
            have tv : ∃ vt, tcV g.ca t = some vt := by
              cases t with
              | b t => exact ⟨_, rfl⟩
              | nt => exact ⟨_, rfl⟩
              | c n =>
                cases us with
                | nil => simp at ht
                | cons u0 us0 =>
                  simp only [anyT] at ev
                  cases e0 : tbl (.c n) u0 with
                  | none => rw [e0] at ev; cases ev
                  | some z => obtain ⟨vt, _, h1, _⟩ := f.one _ _ _ e0; exact ⟨vt, h1⟩
            obtain ⟨vt, hvt⟩ := tv
            obtain ⟨vs, hp, hk⟩ := anyT_ok f hvt e2 rl ev
            have ty := tyx_of f rh ra e1 ht.1 hvt
            rcases q with q | ⟨o, its, n, l1, l2, l3, l4, l5⟩
            · exact .inr (.inl ⟨x, _, _, vt, vs, v, rfl, rh.le _ _ q, hp, by rw [c.eK]; exact ty, by rw [c.eK]; exact hk, p.here rh (.bl _)⟩)
            · refine .inr (.inr ⟨x, _, o.dict, its.toList, n, o.slots, vt, v, rfl, ?_, by rw [c.eK]; exact ty, ?_, p.here rh (.bl _)⟩)
              · rw [c.eK, l1]
                obtain ⟨oc, od, dt, osl⟩ := o
                simp only at l2 l3
                subst l2 l3
                simp
              · rw [c.eK, ← hk, ClsV.all hp l5]
          | _ => exact p.elim
        · exact p.elim
      · exact p.elim
    · exact p.elim
  · exact .inl (b1 W σ G ι H h [a, b] [x, y] Q rh (.cons ra (.cons rb .nil)) p)
end
end MP
end L2

set_option Elab.async false
set_option linter.all false
set_option maxRecDepth 100000
set_option maxHeartbeats 2000000
namespace L2
namespace MP
open PySem PySem.Spec PyProof.Rows
/-! ### min, max of lists of data -/
mutual
theorem D.pd_inj : ∀ (a b : D) (p : PyData), D.pd a = some p → D.pd b = some p → a = b
  | .non, b, p, h, h' => by cases h; cases b <;> simp [D.pd] at h' ⊢
  | .bl _, b, p, h, h' => by cases h; cases b <;> simp [D.pd] at h' ⊢; exact h'.symm
  | .int _, b, p, h, h' => by cases h; cases b <;> simp [D.pd] at h' ⊢; exact h'.symm
  | .str s, b, p, h, h' => by cases h; cases b <;> simp [D.pd] at h' ⊢; exact h'.symm
  | .tup xs, b, p, h, h' => by
    simp only [D.pd, Option.map_eq_some_iff] at h
    obtain ⟨ps, e, rfl⟩ := h
    cases b with
    | tup ys =>
      simp only [D.pd, Option.map_eq_some_iff] at h'
      obtain ⟨qs, e', e2⟩ := h'
      cases e2
      rw [D.pds_inj xs ys ps e e']
    | _ => simp [D.pd] at h'
  | .lst xs, b, p, h, h' => by
    simp only [D.pd, Option.map_eq_some_iff] at h
    obtain ⟨ps, e, rfl⟩ := h
    cases b with
    | lst ys =>
      simp only [D.pd, Option.map_eq_some_iff] at h'
      obtain ⟨qs, e', e2⟩ := h'
      cases e2
      rw [D.pds_inj xs ys ps e e']
    | _ => simp [D.pd] at h'
  | .dct _, _, _, h, _ => by simp [D.pd] at h
  | .ins _ _, _, _, h, _ => by simp [D.pd] at h
  | .loc _, _, _, h, _ => by simp [D.pd] at h
  | .cls _, _, _, h, _ => by simp [D.pd] at h
  | .exn _, _, _, h, _ => by simp [D.pd] at h
  | .lam _ _, _, _, h, _ => by simp [D.pd] at h
  | .scr _, _, _, h, _ => by simp [D.pd] at h
  | .ty _, _, _, h, _ => by simp [D.pd] at h
theorem D.pds_inj : ∀ (a b : List D) (p : List PyData), D.pds a = some p → D.pds b = some p → a = b
  | [], [], _, _, _ => rfl
  | [], y :: ys, p, h, h' => by
    cases h
    simp only [D.pds] at h'
    split at h'
    · cases h'
    · cases h'
  | x :: xs, [], p, h, h' => by
    cases h'
    simp only [D.pds] at h
    split at h
    · cases h
    · cases h
  | x :: xs, y :: ys, p, h, h' => by
    simp only [D.pds] at h h'
    split at h
    · rename_i p1 p2 e1 e2
      cases h
      split at h'
      · rename_i q1 q2 f1 f2
        cases h'
        rw [D.pd_inj x y p1 e1 f1, D.pds_inj xs ys p2 e2 f2]
      · cases h'
    · cases h
end
def minDD (f : D → D → Bool) (d : D) (ds : List D) : D := ds.foldl (fun a y => if f y a = true then y else a) d
def ltD (a b : D) : Bool := PySem.W.dataLt (encD a) (encD b)
def gtD (a b : D) : Bool := PySem.W.dataLt (encD b) (encD a)
/-- may be compared, one by one -/
def cmpOk (xs : List D) : Bool := xs.all (fun d => D.plain d 50 && !D.isNon d) && (xs.all fun d => xs.all fun d' => PySem.W.alike (encD d) (encD d'))
structure CmpOk (xs : List D) : Prop where
  pds : ∃ ps, D.pds xs = some ps ∧ PyData.depthAll ps ≤ 50 ∧ xs.map encD = ps ∧ PySem.W.AlikeAll ps
  one : ∀ d ∈ xs, ∃ p, D.pd d = some p ∧ p.canLay0 = true ∧ encD d = p
theorem pds_enc : ∀ {xs : List D}, (∀ d ∈ xs, ∃ p, D.pd d = some p ∧ p.depth ≤ 50 ∧ encD d = p) → ∃ ps, D.pds xs = some ps ∧ PyData.depthAll ps ≤ 50 ∧ xs.map encD = ps
  | [], _ => ⟨[], rfl, by simp [PyData.depthAll], rfl⟩
  | x :: xs, h => by
    obtain ⟨p, e1, e2, e3⟩ := h x List.mem_cons_self
    obtain ⟨ps, f1, f2, f3⟩ := pds_enc (xs := xs) fun d hd => h d (List.mem_cons_of_mem _ hd)
    exact ⟨p :: ps, pds_cons e1 f1, by simp only [PyData.depthAll]; omega, by rw [List.map_cons, e3, f3]⟩
theorem cmpOk_ok {xs : List D} (h : cmpOk xs = true) : CmpOk xs := by
  unfold cmpOk at h
  simp only [Bool.and_eq_true, List.all_eq_true] at h
  obtain ⟨h1, h3⟩ := h
  have pd : ∀ d ∈ xs, ∃ p, D.pd d = some p ∧ p.depth ≤ 50 ∧ p.canLay0 = true ∧ encD d = p := fun d hd => by
    obtain ⟨p, e, hp, hc⟩ := D.plain_pd d 50 (h1 d hd).1
    exact ⟨p, e, hp, hc, by unfold encD; rw [e]; rfl⟩
  obtain ⟨ps, f1, f2, f3⟩ := pds_enc fun d hd => let ⟨p, a, b, _, c⟩ := pd d hd; ⟨p, a, b, c⟩
  refine ⟨⟨ps, f1, f2, f3, fun x hx y hy => ?_, fun x hx => ?_⟩, fun d hd => let ⟨p, a, _, b, c⟩ := pd d hd; ⟨p, a, b, c⟩⟩
  · rw [← f3] at hx hy
    obtain ⟨a, ha, rfl⟩ := List.mem_map.mp hx
    obtain ⟨b, hb, rfl⟩ := List.mem_map.mp hy
    exact h3 a ha b hb
  · rw [← f3] at hx
    obtain ⟨a, ha, rfl⟩ := List.mem_map.mp hx
    obtain ⟨p, e, _, _, e2⟩ := pd a ha
    rw [e2]
    have hn := (h1 a ha).2
    intro z
    subst z
    cases a with
    | non => simp [D.isNon] at hn
    | tup xs => simp [D.pd] at e
    | lst xs => simp [D.pd] at e
    | bl _ => cases e
    | int _ => cases e
    | str _ => cases e
    | _ => simp [D.pd] at e
theorem minDD_enc {f : D → D → Bool} {F : PyData → PyData → Bool} (hf : ∀ a b, f a b = F (encD a) (encD b)) : ∀ (ds : List D) (d : D), encD (minDD f d ds) = (ds.map encD).foldl (fun a y => if F y a = true then y else a) (encD d)
  | [], d => rfl
  | y :: ys, d => by
    show encD (minDD f (if f y d = true then y else d) ys) = _
    rw [minDD_enc hf ys, List.map_cons, List.foldl_cons, hf]
    split <;> rfl
theorem minDD_mem {f : D → D → Bool} : ∀ (ds : List D) (d : D), minDD f d ds ∈ d :: ds
  | [], d => List.mem_cons_self
  | y :: ys, d => by
    show minDD f (if f y d = true then y else d) ys ∈ _
    have h := minDD_mem (f := f) ys (if f y d = true then y else d)
    rcases List.mem_cons.mp h with e | e
    · rw [e]; split <;> simp
    · exact List.mem_cons_of_mem _ (List.mem_cons_of_mem _ e)
section
variable {g : GX} {N : List Str} {sc : SC} {k : Nat} {W : XW} {σ : St} {G : GP} {ι : List Addr} {H : Hp} {h : Hm} {ev : Ev} {w : World} {K : PySem.W.Frag} {ca : Nat → Option Addr}
theorem val_of {X : Cx} {pins : List (Addr × Obj)} {s : Shared} (I : Inv X pins σ H s) (rh : RH X.w X.K ca G ι H h) {ds : List D} {xs : List V} {us : List Value} (rl : RepL X.w X.K ca G ι ds xs) (rv : Vals xs us) (ok : CmpOk ds) {m : D} (hm : m ∈ ds) {i : Nat} {v : Value} (hv : us[i]? = some v) {h' : Heap} {bs : List Addr} (hk : ∀ b o, s.heap.get? b = some o → h'.get? b = some o) (r : Reads h' v (encD m) bs) :
    ∃ y, Rep X.w X.K ca G ι m y ∧ RelV y v := by
  have hlt := (List.getElem?_eq_some_iff.mp hv).1
  have hl := rv.length
  obtain ⟨y, hy, ry⟩ : ∃ y, xs[i]? = some y ∧ RelV y v := by
    have hx : xs[i]? = some (xs[i]'(by omega)) := by simp
    obtain ⟨u, hu, ru⟩ := rv.get hx
    rw [hv] at hu; cases hu
    exact ⟨_, hx, ru⟩
  obtain ⟨d, hd, rd⟩ := rl.get hy
  obtain ⟨p, e1, c1, e2⟩ := ok.one d (List.mem_of_getElem? hd)
  obtain ⟨p', e1', c1', e2'⟩ := ok.one m hm
  obtain ⟨as, r1⟩ := Dp.reads I p y v (rd.dp rh.le e1) ry
  have u := SeqAt.Reads.unique p (encD m) v as bs c1 (PySem.W.reads_keeps hk r1) r
  rw [e2'] at u
  subst u
  rw [D.pd_inj m d p e1' e1]
  exact ⟨y, rd, ry⟩
theorem call_minD {X : Cx} (hc : X.calm = true) (hu : X.A.units + 64 < cLine) : CallR X (.builtin "min") (fun vs H Q => ∃ ca G ι h a xs d ds, vs = [.ref a] ∧ RH X.w X.K ca G ι H h ∧ SqL X.K H a xs ∧ RepL X.w X.K ca G ι (d :: ds) xs ∧ cmpOk (d :: ds) = true ∧ ∀ y, Rep X.w X.K ca G ι (minDD ltD d ds) y → Q y H) := by
  intro pins s σ H vs us Q I r hh
  obtain ⟨ca, G, ι, h, a, xs, d, ds, rfl, rh, hs, rl, ho, q⟩ := hh
  have ok := cmpOk_ok ho
  rw [Vals.ref1 r]
  obtain ⟨its, rv, hl, hz⟩ := I.list hs
  obtain ⟨ps, e1, e2, e3, al⟩ := ok.pds
  obtain ⟨as, rd⟩ := Dp.readsAll I ps xs its (rl.dps rh.le e1) rv
  cases ps with
  | nil => cases e3
  | cons p ps =>
    have ep : encD d = p := (List.cons.inj e3).1
    have eps : ds.map encD = ps := (List.cons.inj e3).2
    refine PySem.W.min_list_data (I.ok.hd hc) hl.isList (by simpa using rd) al (by omega) fun i v h' tk bs hv r hk => ?_
    have em : encD (minDD ltD d ds) = PySem.W.minD p ps := by rw [minDD_enc (f := ltD) (F := PySem.W.dataLt) (fun _ _ => rfl), ep, eps]; rfl
    rw [← em] at r
    obtain ⟨y, ry, rvv⟩ := val_of I rh rl rv ok (minDD_mem ds d) (by simpa using hv) hk r
    exact ⟨y, H, I.kept hk, rvv, q y ry⟩
def fMinD : D → Hm → Res D := fun x h => match rdL h x with
  | some (d :: ds) => if cmpOk (d :: ds) = true then .ok (minDD ltD d ds) h else .bad
  | _ => .bad
theorem o_minD : ∀ X W, At g N sc k X W → ∃ r, CallR X (.builtin "min") r ∧ OkL g r (f1 fMinD) := fun X W c => ⟨_, call_minD c.calm c.u64, okL1 fun W σ G ι H h d v Q rh r p => by
  unfold fMinD at p
  split at p
  · rename_i d0 ds e1
    split at p
    · rename_i ho
      obtain ⟨a, ys, rfl, hs, rl⟩ := rdL_ok rh r e1
      exact ⟨g.ca, G, ι, h, a, ys, d0, ds, rfl, by rw [c.eK, c.ew]; exact rh, by rw [c.eK]; exact hs, by rw [c.eK, c.ew]; exact rl, ho, fun y ry => p.here rh (by rw [c.eK, c.ew] at ry; exact ry)⟩
    · exact p.elim
  · exact p.elim⟩
end
end MP
end L2

set_option Elab.async false
set_option linter.all false
set_option maxRecDepth 100000
set_option maxHeartbeats 2000000
namespace L2
namespace MP
open PySem PySem.Spec PySem.Calls PyProof.Rows
/-! ### sorted(d), sorted(d.values()), sorted(d.items()) -/
section
variable {prog : Program} {w : World} {A : Around} {E : Value → Shared → Prop} {s : Shared}
theorem sorted_coll {r : Addr} {Q : Value → Shared → Prop} {P : Heap → Nat → List Value → Prop}
    (hcol : ∀ (R : List Value → Shared → Prop), (∀ h' tk vs, P h' tk vs → R vs { s with heap := h', toks := tk }) → wpAny (model prog w) A.in1 (collect (.ref r)) R E s)
    (h : ∀ h' tk vs, P h' tk vs → vs.length ≤ sizeLine ∧ wpAny (model prog w) A.in1 (call (.builtin "list.sort") [.ref h'.objs.size]) (fun _ s' => Q (.ref h'.objs.size) s') E { s with heap := h'.push { cls := .type "list", data := .seq vs.toArray }, toks := tk }) :
    wpAny (model prog w) A (call (.builtin "sorted") [.ref r]) Q E s := by
  refine call_function_entry kind_sorted plain_sorted entry_sorted (args_sorted1 _) ?_
  unfold Builtin.«sorted»
  refine wpAny_bind (m := checkCount "sorted" 1 1 _) (wpAny_pure ?_)
  refine wpAny_bind (hcol _ fun h' tk vs hp => ?_)
  obtain ⟨hl, hg⟩ := h h' tk vs hp
  refine wpAny_bind (wpAny_newList ?_ hl)
  refine wpAny_bind (wpAny_holding (wpAny_mono hg (fun _ s' x => ?_) fun _ _ e => e))
  exact wpAny_pure ⟨_, rfl, x⟩
end
section
variable {X : Cx} {ca : Nat → Option Addr} {G : GP} {ι : List Addr} {H : Hp} {h : Hm} {pins : List (Addr × Obj)} {σ : St} {s : Shared}
theorem sorted_fin {vs : List Value} {ds : List D} {Q : VK} (I : Inv X pins σ H s) (hu : X.A.units + 64 < cLine) (rh : RH X.w X.K ca G ι H h) (e : PySem.W.EachIs (RU X.w X.K ca G ι) vs ds) (ok : SortOk ds)
    (q : ∀ p ys, H p = none → RepL X.w X.K ca G ι (sortD ds) ys → Q (.ref p) (upd H p (.lst ys))) :
    wpAny (model X.prog X.w) X.A.in1 (call (.builtin "list.sort") [.ref s.heap.objs.size]) (fun _ s' => EP X pins σ Q (.ref s.heap.objs.size) s') X.xe { s with heap := s.heap.push { cls := .type "list", data := .seq vs.toArray } } := by
  have hob : (s.heap.push { cls := .type "list", data := .seq vs.toArray }).get? s.heap.objs.size = some (seqObj "list" vs.toArray 0) := Heap.get?_push_size _ rfl
  have old : ∀ b o, s.heap.get? b = some o → b ≠ s.heap.objs.size ∧ (s.heap.push { cls := .type "list", data := .seq vs.toArray }).get? b = some o := fun b o eo => ⟨Nat.ne_of_lt (Heap.lt_size eo), Heap.get?_push_of_some _ eo⟩
  generalize hh2 : s.heap.push { cls := .type "list", data := .seq vs.toArray } = h2 at hob old ⊢
  have er := each_reads I rh ok.pd e
  have er' : PySem.W.EachIs (fun v b => ∃ as, Reads (PySem.W.sortingHeap h2 s.heap.objs.size vs) v (encD b) as) vs ds := er.mono fun _ _ ⟨as, r⟩ => ⟨as, PyProof.Rows.Reads.keeps (fun b o eo => PySem.W.sortingHeap_old (old b o eo).1 (old b o eo).2) r⟩
  have hlen0 : vs.length = ds.length := e.length
  refine wpAny_call_entry PyProof.Rows.slot_list_sort ⟨_, hob, rfl⟩ PyProof.Rows.entry_list_sort (PySem.W.list_sort_vals (κ := PySem.W.dataKind (PySem.W.sortingHeap h2 s.heap.objs.size vs) (ds.map encD)) hob (PySem.W.SortsAt.data (s := { s with heap := PySem.W.sortingHeap h2 s.heap.objs.size vs }) (PySem.W.each_map (R := fun v d => ∃ as, Reads (PySem.W.sortingHeap h2 s.heap.objs.size vs) v d as) encD er') ok.al ok.so (PySem.W.bound_map fun b hb => ?_)) (by rw [hlen0]; exact ok.le) ⟨.none, rfl, ?_⟩) (PyProof.Rows.args_list_sort _)
  · obtain ⟨p, _, hp, e2⟩ := ok.pd b hb
    rw [e2]
    show X.A.units + 1 + 1 + p.depth < cLine
    omega
  · have hout := PySem.W.sortVals_data false e er' ok.al
    rw [show ds.mergeSort (PySem.W.dataLe false encD) = sortD ds from (sortD_eq ds).symm] at hout
    generalize PySem.W.sortVals (PySem.W.dataKind (PySem.W.sortingHeap h2 s.heap.objs.size vs) (ds.map encD)) false vs vs = out at hout ⊢
    obtain ⟨ys, r1, r2⟩ := of_each hout
    obtain ⟨ep, he'⟩ := PyProof.Rows.sortedHeap_at (vs := vs) (out := out.toArray) hob
    have hlen2 : ys.length ≤ sizeLine := by rw [← r1.length, sortD_eq, List.length_mergeSort]; exact ok.le
    exact ⟨.ref _, upd H s.heap.objs.size (.lst ys), I.laid (t' := s.toks) (fun b o eo => (PyProof.Rows.sortedHeap_old (old b o eo).1 (Heap.lt_size (old b o eo).2)).trans (old b o eo).2) (Nat.le_refl _) ⟨hlen2, out, ep, r2, by simpa using he'⟩, rfl, q _ ys (I.hok.fresh (Nat.le_refl _)) r1⟩
/-- what a walk over a dict, or over a view of it, gathers: f of its pairs -/
def Colls (X : Cx) (view : Heap → Addr → Addr → Prop) (f : List (D × D) → List D) : Prop :=
  ∀ {A : Around} {ca : Nat → Option Addr} {G : GP} {ι : List Addr} {H : Hp} {h : Hm} {pins : List (Addr × Obj)} {σ : St} {s : Shared} {v a : Addr} {es : List DictEntry} {ep : Nat} {kvs : List (D × D)} (R : List Value → Shared → Prop),
    A.handled = none → Inv X pins σ H s → RH X.w X.K ca G ι H h → (a == sysModules) = false → s.heap.DictRaw a es.toArray ep → view s.heap v a → RepE X.w X.K ca G ι kvs es → es.length ≤ sizeLine →
    (∀ h' tk vs H2 G2, Gr G ι G2 ι → Inv X pins σ H2 { s with heap := h', toks := tk } → RH X.w X.K ca G2 ι H2 h → PySem.W.EachIs (RU X.w X.K ca G2 ι) vs (f kvs) → R vs { s with heap := h', toks := tk }) →
    wpAny (model X.prog X.w) A (collect (.ref v)) R X.xe s
theorem each_key : ∀ {kvs : List (D × D)} {es : List DictEntry}, RepE X.w X.K ca G ι kvs es → PySem.W.EachIs (RU X.w X.K ca G ι) (es.map (·.key)) (kvs.map (·.1))
  | _, _, .nil => .nil
  | _, _, .cons r1 r2 _ _ _ _ t => .cons ⟨_, r1, r2⟩ (each_key t)
theorem each_val : ∀ {kvs : List (D × D)} {es : List DictEntry}, RepE X.w X.K ca G ι kvs es → PySem.W.EachIs (RU X.w X.K ca G ι) (es.map (·.val)) (kvs.map (·.2))
  | _, _, .nil => .nil
  | _, _, .cons _ _ _ _ r3 r4 t => .cons ⟨_, r3, r4⟩ (each_val t)
theorem items_list {es : List DictEntry} {f : DictEntry → Value} {acc : Array Value} (h : ItemsOf (fun i v => ∃ hi : i < es.toArray.size, v = f es.toArray[i]) acc es.toArray.size) : acc.toList = es.map f := by
  refine List.ext_getElem? fun j => ?_
  obtain ⟨h1, h2⟩ := h
  rw [Array.getElem?_toList, List.getElem?_map]
  cases e : acc[j]? with
  | none =>
    have : es.toArray.size ≤ j := by rw [← h1]; exact Array.getElem?_eq_none_iff.mp e
    rw [List.getElem?_eq_none (by simpa using this)]
    rfl
  | some v =>
    obtain ⟨hi, rfl⟩ := h2 j v e
    have hi' : j < es.length := by simpa using hi
    rw [List.getElem?_eq_getElem hi']
    simp
theorem colls_keys : Colls X (fun _ v a => v = a) (fun kvs => kvs.map (·.1)) := by
  intro A ca G ι H h pins σ s v a es ep kvs R hh I rh hsm hd hv re hl hR
  subst hv
  refine PySem.W.kdu_collect (PySem.KdlSrc.rawDict hsm) hh hd (by simpa using hl) fun h' tk acc hk hi => ?_
  rw [items_list hi]
  exact hR h' tk _ H G (Gr.refl) (I.kept hk) rh (each_key re)
theorem colls_values : Colls X (fun h v a => h.IsValuesView v a) (fun kvs => kvs.map (·.2)) := by
  intro A ca G ι H h pins σ s v a es ep kvs R hh I rh hsm hd hv re hl hR
  refine PySem.W.kdu_collect PySem.KdlSrc.rawValues hh ⟨hv, hd⟩ (by simpa using hl) fun h' tk acc hk hi => ?_
  rw [items_list hi]
  exact hR h' tk _ H G (Gr.refl) (I.kept hk) rh (each_val re)
def pairD (p : D × D) : D := .tup [p.1, p.2]
theorem RU.mono {G' : GP} (e : Gr G ι G' ι) {u : Value} {d : D} : RU X.w X.K ca G ι u d → RU X.w X.K ca G' ι u d := fun ⟨v, r, q⟩ => ⟨v, r.mono e.s e.p, q⟩
theorem take_pairs {h' : Heap} {tk : Nat} (I : Inv X pins σ H s) (as : List Addr) : ∀ {kvs : List (D × D)} {es : List DictEntry}, RepE X.w X.K ca G ι kvs es → as.length = es.length →
    (∀ (j : Nat) (a : Addr), as[j]? = some a → ∃ en : DictEntry, es[j]? = some en ∧ h'.get? a = some { cls := .type "tuple", data := .seq #[en.key, en.val] } ∧ s.heap.objs.size ≤ a) → as.Nodup →
    ∀ H1 G1, Inv X pins σ H1 { s with heap := h', toks := tk } → RH X.w X.K ca G1 ι H1 h → Gr G ι G1 ι → (∀ a ∈ as, H1 a = none) →
    ∃ H2 G2, Inv X pins σ H2 { s with heap := h', toks := tk } ∧ RH X.w X.K ca G2 ι H2 h ∧ Gr G1 ι G2 ι ∧ PySem.W.EachIs (RU X.w X.K ca G2 ι) (as.map Value.ref) (kvs.map pairD) := by
  induction as with
  | nil =>
    intro kvs es re hl _ _ H1 G1 I1 rh _ _
    cases re with
    | nil => exact ⟨H1, G1, I1, rh, Gr.refl, .nil⟩
    | cons _ _ _ _ _ _ _ => simp at hl
  | cons a as ih =>
    intro kvs es re hl hp hn H1 G1 I1 rh gr ho
    cases re with
    | nil => simp at hl
    | cons r1 r2 e5 e6 r3 r4 t =>
      rename_i d e kv vv en k kvs es
      obtain ⟨en', e1, e2, e3⟩ := hp 0 a rfl
      have e1 : some en = some en' := e1
      cases e1
      have hn0 := ho a List.mem_cons_self
      have I2 : Inv X pins σ (upd H1 a (.tup [kv, vv])) { s with heap := h', toks := tk } :=
        I1.take (h' := h') (t' := tk) (fun b ob _ z => z) (I.fpOk e3 hn0) ⟨by rw [sizeLine_eq]; show 2 ≤ 16777216; decide, [en.key, en.val], .cons r2 (.cons r4 .nil), _, e2, rfl, _, rfl⟩
      obtain ⟨g2, rh2⟩ := rh.fz (o := .tup [kv, vv]) hn0
      rw [List.nodup_cons] at hn
      obtain ⟨H2, G2, I3, rh3, g3, ee⟩ := ih t (by simpa using hl) (fun j b hb => hp (j + 1) b (by simpa using hb)) hn.2 _ _ I2 rh2 (gr.trans g2) fun b hb => by
        rw [upd_ne (fun z => hn.1 (by rw [← z]; exact hb))]; exact ho b (List.mem_cons_of_mem _ hb)
      have g4 := (gr.trans g2).trans g3
      refine ⟨H2, G2, I3, rh3, g2.trans g3, .cons ⟨.ref a, ?_, rfl⟩ ee⟩
      exact .tup (.inl (g3.s _ _ upd_same)) (.cons (r1.mono g4.s g4.p) (.cons (r3.mono g4.s g4.p) .nil))
theorem colls_items : Colls X (fun h v a => h.IsItemsView v a) (fun kvs => kvs.map pairD) := by
  intro A ca G ι H h pins σ s v a es ep kvs R hh I rh hsm hd hv re hl hR
  refine PySem.W.dil_collect hh hv hd (by simpa using hl) fun h' tk as hk hal hG => ?_
  have I1 : Inv X pins σ H { s with heap := h', toks := tk } := I.kept hk
  obtain ⟨H2, G2, I2, rh2, g2, ee⟩ := take_pairs (h := h) I as re (by simpa using hal) (fun j b hb => by
    obtain ⟨hj, hg⟩ := hG.pairs j b hb
    have hj' : j < es.length := by simpa using hj
    exact ⟨es[j], List.getElem?_eq_getElem hj', by simpa using hg, Nat.le_of_lt (hG.above b (List.mem_of_getElem? hb))⟩) (hG.rise.imp fun hx => Nat.ne_of_lt hx) H G I1 rh (Gr.refl) fun b hb => I.hok.fresh (Nat.le_of_lt (hG.above b hb))
  exact hR h' tk _ H2 G2 g2 I2 rh2 ee
theorem call_sortK {view : Heap → Addr → Addr → Prop} {f : List (D × D) → List D} {v a : Addr} {es : List DictEntry} {ep : Nat} {kvs : List (D × D)} {Q : VK} (C : Colls X view f) (hh : X.A.handled = none) (hu : X.A.units + 64 < cLine)
    (I : Inv X pins σ H s) (rh : RH X.w X.K ca G ι H h) (hsm : (a == sysModules) = false) (hd : s.heap.DictRaw a es.toArray ep) (hv : view s.heap v a) (re : RepE X.w X.K ca G ι kvs es) (hl : es.length ≤ sizeLine) (ho : sortOk (f kvs) = true)
    (q : ∀ G2 H2 p ys, Gr G ι G2 ι → RH X.w X.K ca G2 ι H2 h → H2 p = none → RepL X.w X.K ca G2 ι (sortD (f kvs)) ys → Q (.ref p) (upd H2 p (.lst ys))) :
    wpAny (model X.prog X.w) X.A (call (.builtin "sorted") [.ref v]) (EP X pins σ Q) X.xe s :=
  have ok := sortOk_ok ho
  sorted_coll (P := fun h' tk vs => ∃ H2 G2, Gr G ι G2 ι ∧ Inv X pins σ H2 { s with heap := h', toks := tk } ∧ RH X.w X.K ca G2 ι H2 h ∧ PySem.W.EachIs (RU X.w X.K ca G2 ι) vs (f kvs))
    (fun R hR => C R hh I rh hsm hd hv re hl fun h' tk vs H2 G2 g I2 rh2 e => hR h' tk vs ⟨H2, G2, g, I2, rh2, e⟩)
    fun h' tk vs ⟨H2, G2, g, I2, rh2, e⟩ => ⟨by rw [e.length]; exact ok.le, sorted_fin I2 hu rh2 e ok fun p ys hp rl => q G2 H2 p ys g rh2 hp rl⟩
end
/-- sorted of what a walk over a dict or a view of it gives -/
def fSortK (f : List (D × D) → List D) : D → Hm → Res D := fun x h => match rdD h x with
  | some kvs => if sortOk (f kvs) = true then .ok (.lst (sortD (f kvs))) h else .bad
  | none => .bad
theorem dok_len {w : World} {K : PySem.W.Frag} {ca : Nat → Option Addr} {G : GP} {ι : List Addr} {kvs : List (D × D)} {es : List DictEntry} (m : dok kvs) (re : RepE w K ca G ι kvs es) : es.length ≤ sizeLine := by
  rw [sizeLine_eq, ← re.length]
  exact m.2.1
section
variable {g : GX} {N : List Str} {sc : SC} {k : Nat} {W : XW} {σ : St} {G : GP} {ι : List Addr} {H : Hp} {h : Hm} {ev : Ev} {w : World} {K : PySem.W.Frag} {ca : Nat → Option Addr}
theorem call_sortDK {X : Cx} (hc : X.calm = true) (hu : X.A.units + 64 < cLine) : CallR X (.builtin "sorted") (fun vs H Q => ∃ ca G ι h a kvs es, vs = [.ref a] ∧ RH X.w X.K ca G ι H h ∧ (a == sysModules) = false ∧ dok kvs ∧ Rd H a (.ext (dictφ a es)) ∧ RepE X.w X.K ca G ι kvs es ∧ sortOk (kvs.map (·.1)) = true ∧
    ∀ G2 H2 p ys, Gr G ι G2 ι → RH X.w X.K ca G2 ι H2 h → H2 p = none → RepL X.w X.K ca G2 ι (sortD (kvs.map (·.1))) ys → Q (.ref p) (upd H2 p (.lst ys))) := by
  intro pins s σ H vs us Q I r hh
  obtain ⟨ca, G, ι, h, a, kvs, es, rfl, rh, hsm, m, hr, re, ho, q⟩ := hh
  rw [Vals.ref1 r]
  obtain ⟨o', ep, d1, d2, d3⟩ := dict_of I hr
  exact call_sortK (view := fun _ v a => v = a) (f := fun kvs => kvs.map (·.1)) colls_keys (I.ok.hd hc) hu I rh hsm ⟨o', d1, d2, d3⟩ rfl re (dok_len m re) ho q
/-- sorted(d) -/
theorem o_sortK : ∀ X W, At g N sc k X W → ∃ r, CallR X (.builtin "sorted") r ∧ OkL g r (f1 (fSortK fun kvs => kvs.map (·.1))) := fun X W c => ⟨_, call_sortDK c.calm c.u64, okL1 fun W σ G ι H h d v Q rh r p => by
  unfold fSortK at p
  cases e1 : rdD h d with
  | none => simp only [e1] at p; exact p.elim
  | some kvs =>
    simp only [e1] at p
    split at p
    · rename_i ho
      obtain ⟨a, es, rfl, hsm, m, hr, re⟩ := rdD_ok rh r e1
      refine ⟨g.ca, G, ι, h, a, kvs, es, rfl, by rw [c.eK, c.ew]; exact rh, hsm, m, hr, by rw [c.eK, c.ew]; exact re, ho, fun G2 H2 p0 ys g2 rh2 hp rl => ?_⟩
      rw [c.eK, c.ew] at rh2 rl
      obtain ⟨gr, rh'⟩ := rh2.fz (o := .lst ys) hp
      exact p _ _ _ _ (g2.trans gr) rh' (.lst upd_same (rl.mono gr.s gr.p))
    · exact p.elim⟩
/-- what d.items(), d.values() give -/
def Views (id : String) (view : Heap → Addr → Addr → Prop) : Prop := ∀ {prog : Program} {w : World} {A : Around} {E : Value → Shared → Prop} {s : Shared} {d : Addr} {es : Array DictEntry} {ep : Nat} {Q : Value → Shared → Prop}, (d == sysModules) = false → s.heap.DictRaw d es ep →
  (∀ h', (∀ b o, s.heap.get? b = some o → h'.get? b = some o) → view h' s.heap.objs.size d → Q (.ref s.heap.objs.size) { s with heap := h' }) → wpAny (model prog w) A (call (.builtin id) [.ref d]) Q E s
theorem views_items : Views "dict.items" (fun h v a => h.IsItemsView v a) := fun hd hm hq => DT.callItems hd hm (hq _ (fun _ _ e => Heap.get?_push_of_some _ e) ⟨_, Heap.get?_push_size _ rfl, rfl, rfl⟩)
theorem views_values : Views "dict.values" (fun h v a => h.IsValuesView v a) := fun {_ _ _ _ _ _ es ep _} hd hm hq => call_meetsIn PySem.F.slot_dict_values hm.typeIs PySem.F.entry_dict_values (PySem.F.args_dict_values_1 _) (meets_dict_values_raw _ hd) ⟨⟨es, ep, hm⟩, hq _ (fun _ _ e => Heap.get?_push_of_some _ e) ⟨_, Heap.get?_push_size _ rfl, rfl, rfl⟩⟩
/-- sorted(d.items()), sorted(d.values()) -/
theorem se_sortView {o : Expr} {name : Str} {id : String} {view : Heap → Addr → Addr → Prop} {f : List (D × D) → List D} {mo : ME} {p apos cpos pos : Pos} (slot : Slot "dict" name id) (hty : typeOf (.builtin id) = pure (.type "method_descriptor")) (hV : Views id view) (hC : ∀ X, Colls X view f)
    (ho : SE g N sc k o mo) (hm : g.mg "sorted" = none) (hg : sc.names.lookup ("sorted" : Str) = some .globalImplicit := by rfl)
    (hbase : ∀ env, attributeBase o name env (eval o env) = eval o env := by intro _; rfl) (hline : (apos.endLine == cpos.line) = true := by rfl) :
    SE g N sc k (.Call (.Name "sorted" p) [.Call (.Attribute o name apos) [] [] cpos] [] pos) (m1 (fSortK f) mo) := fun X W c => by
  refine ⟨fun pins s σ H Q I q => ?_⟩
  obtain ⟨G, ι, ev, h, rs, rh, p⟩ := q
  refine Call_ (ld_blt I (c.gl hg) (by rw [c.em]; exact hm) PyProof.Rows.boot_sorted ?_)
  refine PyProof.Rows.callWith_builtin1 (PyProof.Rows.args_cons ?_ rfl) rfl rfl
  refine wpAny_Call_method0_late (hbase _) hline (thn ((ho X W c).run pins s σ H _ I (tE_go rs rh p fun v h1 G1 ι1 H1 x _ gr rh1 rs1 rx p1 => (⟨G1, ι1, v, h1, rh1, rx, p1⟩ : (fun (x : V) (H1 : Hp) => ∃ G1 ι1 v h1, RH g.w g.K g.ca G1 ι1 H1 h1 ∧ Rep g.w g.K g.ca G1 ι1 v x ∧ PostR g W σ (RpE g) G1 ι1 (fSortK f v h1) Q) x H1))) fun u s1 hh => ?_)
  obtain ⟨y, H1, I1, ry, G1, ι1, v, h1, rh1, rx, p1⟩ := hh
  unfold fSortK at p1
  cases e1 : rdD h1 v with
  | none => simp only [e1] at p1; exact p1.elim
  | some kvs =>
    simp only [e1] at p1
    split at p1
    · rename_i hok
      obtain ⟨a, es, rfl, hsm, m, hr, re⟩ := rdD_ok rh1 rx e1
      cases ry
      obtain ⟨o', ep, d1, d2, d3⟩ := dict_of I1 hr
      refine ⟨"dict", id, PySem.F.plainAttrs_dict, slot, hty, ⟨o', d1, d2.1⟩, fun b eb => by cases eb; exact ⟨o', d1, d2.2.1⟩, Calls.callWith_builtin rfl (PySem.evalArgs_none (hV hsm ⟨o', d1, d2, d3⟩ fun h' hk hv => PyProof.Rows.args_nil ?_))⟩
      refine call_sortK (hC X) (I1.ok.hd c.calm) c.u64 (I1.kept (t' := s1.toks) hk) (ca := g.ca) (by rw [c.eK, c.ew]; exact rh1) hsm ⟨o', hk _ _ d1, d2, d3⟩ hv (by rw [c.eK, c.ew]; exact re) (dok_len m re) hok fun G2 H2 p0 ys g2 rh2 hp rl => ?_
      rw [c.eK, c.ew] at rh2 rl
      obtain ⟨gr, rh'⟩ := rh2.fz (o := .lst ys) hp
      exact p1 _ _ _ _ (g2.trans gr) rh' (.lst upd_same (rl.mono gr.s gr.p))
    · exact p1.elim
end
end MP
end L2

set_option Elab.async false
set_option linter.all false
set_option maxRecDepth 100000
set_option maxHeartbeats 2000000
namespace L2
namespace MP
open PySem PySem.Spec PySem.Calls PyProof.Rows
section
variable {prog : Program} {w : World} {A : Around} {E : Value → Shared → Prop} {s : Shared}
/-- sum of a tuple of ints -/
theorem sum_tupI {l : Addr} {its : List Value} {ns : List Int} {Q : Value → Shared → Prop} (hh : A.handled = none) (hl : s.heap.IsTuple l its.toArray) (hi : IntsAre its ns)
    (h : ∀ h' tk t', (∀ b o, s.heap.get? b = some o → h'.get? b = some o) → Q (.int ns.sum t') { s with heap := h', toks := tk }) : wpAny (model prog w) A (call (.builtin "sum") [.ref l]) Q E s := by
  obtain ⟨xs, e⟩ := hi.allInts.items
  have hn : numsOf (intItems xs).toList = ns := by rw [← e]; exact hi.numsOf
  rw [nums_intItems] at hn
  rw [e] at hl
  have hlt : l < s.heap.objs.size := by obtain ⟨_, e, _⟩ := hl; exact Heap.lt_size e
  refine call_sum_walkG (wpAny_pyIter_tuple hl ?_)
  refine ⟨_, _, _, _, _, _, numAt xs, rfl, Walks.tuple (A := A.in1) hh _ l (Nat.ne_of_lt hlt) (intItems xs), ⟨⟨_, Heap.get?_push_size _ rfl, rfl, rfl⟩, hl.push _⟩, fun b hb => ?_, (fun _ _ => intItems_at), fun h' tk t' hk => ?_⟩
  · show b < (s.heap.push _).objs.size
    rw [Heap.size_push]
    rcases List.mem_cons.mp hb with rfl | hb
    · exact Nat.lt_succ_self _
    · rcases List.mem_cons.mp hb with rfl | hb
      · exact Nat.lt_succ_of_lt hlt
      · cases hb
  · have := h h' tk t' (fun b o e => hk b o (fun hb => absurd (Heap.lt_size e) ((List.mem_singleton.mp hb) ▸ Nat.lt_irrefl _)) (Heap.get?_push_of_some _ e))
    have e2 : preSum (numAt xs) (intItems xs).size = ns.sum := by
      rw [preSum_eq, List.take_of_length_le (by simp [intItems]), hn]
    rw [e2]
    exact this
end
section
variable {g : GX} {N : List Str} {sc : SC} {k : Nat} {W : XW} {σ : St} {G : GP} {ι : List Addr} {H : Hp} {h : Hm} {ev : Ev} {w : World} {K : PySem.W.Frag} {ca : Nat → Option Addr}
theorem call_sumI {X : Cx} (hc : X.calm = true) : CallR X (.builtin "sum") (fun vs H Q => ∃ (a : Addr) (ns : List Int), vs = [V.ref a] ∧ (SqL X.K H a (ns.map V.int) ∨ SqT X.K H a (ns.map V.int)) ∧ Q (.int ns.sum) H) := by
  intro pins s σ H vs us Q I r hh
  obtain ⟨a, ns, rfl, hs, q⟩ := hh
  rw [Vals.ref1 r]
  rcases hs with hs | hs
  · obtain ⟨its, rv, hl, _⟩ := I.list hs
    exact sum_raw (I.ok.hd hc) hl.isList rv.ints fun h' tk t' hk => ⟨.int _, H, I.kept hk, ⟨_, rfl⟩, q⟩
  · obtain ⟨its, rv, pl, _⟩ := I.tuple hs
    exact sum_tupI (I.ok.hd hc) (show s.heap.IsTuple a its.toArray from pl) rv.ints fun h' tk t' hk => ⟨.int _, H, I.kept hk, ⟨_, rfl⟩, q⟩
/-- sum(xs) of ints -/
def fSum : D → Hm → Res D := fun x h => match (rdS h x).bind intsD with
  | some ns => .ok (.int ns.sum) h
  | none => .bad
theorem o_sum : ∀ X W, At g N sc k X W → ∃ r, CallR X (.builtin "sum") r ∧ OkL g r (f1 fSum) := fun X W c => ⟨_, call_sumI c.calm, okL1 fun W σ G ι H h d v Q rh r p => by
  unfold fSum at p
  cases e1 : rdS h d with
  | none => rw [e1] at p; exact p.elim
  | some xs =>
    rw [e1] at p
    cases e : intsD xs with
    | none => simp only [Option.bind_some, e] at p; exact p.elim
    | some ns =>
      simp only [Option.bind_some, e] at p
      obtain ⟨a, ys, rfl, hs, rl⟩ := rdS_ok rh r e1
      have := ints_ok rl e
      subst this
      exact ⟨a, ns, rfl, by rw [c.eK]; exact hs, p.here rh (.int _)⟩⟩
/-! ### max(xs) of data -/
theorem call_maxD {X : Cx} (hc : X.calm = true) (hu : X.A.units + 64 < cLine) : CallR X (.builtin "max") (fun vs H Q => ∃ ca G ι h a xs d ds, vs = [.ref a] ∧ RH X.w X.K ca G ι H h ∧ SqL X.K H a xs ∧ RepL X.w X.K ca G ι (d :: ds) xs ∧ cmpOk (d :: ds) = true ∧ ∀ y, Rep X.w X.K ca G ι (minDD gtD d ds) y → Q y H) := by
  intro pins s σ H vs us Q I r hh
  obtain ⟨ca, G, ι, h, a, xs, d, ds, rfl, rh, hs, rl, ho, q⟩ := hh
  have ok := cmpOk_ok ho
  rw [Vals.ref1 r]
  obtain ⟨its, rv, hl, hz⟩ := I.list hs
  obtain ⟨ps, e1, e2, e3, al⟩ := ok.pds
  obtain ⟨as, rd⟩ := Dp.readsAll I ps xs its (rl.dps rh.le e1) rv
  cases ps with
  | nil => cases e3
  | cons p ps =>
    have ep : encD d = p := (List.cons.inj e3).1
    have eps : ds.map encD = ps := (List.cons.inj e3).2
    refine PySem.W.max_list_data (I.ok.hd hc) hl.isList (by simpa using rd) al (by omega) fun i v h' tk bs hv r hk => ?_
    have em : encD (minDD gtD d ds) = PySem.W.maxD p ps := by rw [minDD_enc (f := gtD) (F := fun a b => PySem.W.dataLt b a) (fun _ _ => rfl), ep, eps]; rfl
    rw [← em] at r
    obtain ⟨y, ry, rvv⟩ := val_of I rh rl rv ok (minDD_mem ds d) (by simpa using hv) hk r
    exact ⟨y, H, I.kept hk, rvv, q y ry⟩
def fMaxD : D → Hm → Res D := fun x h => match rdL h x with
  | some (d :: ds) => if cmpOk (d :: ds) = true then .ok (minDD gtD d ds) h else .bad
  | _ => .bad
theorem o_maxD : ∀ X W, At g N sc k X W → ∃ r, CallR X (.builtin "max") r ∧ OkL g r (f1 fMaxD) := fun X W c => ⟨_, call_maxD c.calm c.u64, okL1 fun W σ G ι H h d v Q rh r p => by
  unfold fMaxD at p
  split at p
  · rename_i d0 ds e1
    split at p
    · rename_i ho
      obtain ⟨a, ys, rfl, hs, rl⟩ := rdL_ok rh r e1
      exact ⟨g.ca, G, ι, h, a, ys, d0, ds, rfl, by rw [c.eK, c.ew]; exact rh, by rw [c.eK]; exact hs, by rw [c.eK, c.ew]; exact rl, ho, fun y ry => p.here rh (by rw [c.eK, c.ew] at ry; exact ry)⟩
    · exact p.elim
  · exact p.elim⟩
end
end MP
end L2

set_option Elab.async false
set_option linter.all false
set_option maxRecDepth 100000
set_option maxHeartbeats 2000000
namespace L2
namespace MP
open PySem PySem.Spec PySem.Calls PyProof.Rows
section
variable {g : GX} {N : List Str} {sc : SC} {k : Nat} {W : XW} {σ : St} {G : GP} {ι : List Addr} {H : Hp} {h : Hm} {ev : Ev} {w : World} {K : PySem.W.Frag} {ca : Nat → Option Addr}
theorem CallR.or {X : Cx} {f : Value} {r1 r2 : List V → Hp → VK → Prop} (h1 : CallR X f r1) (h2 : CallR X f r2) : CallR X f (fun vs H Q => r1 vs H Q ∨ r2 vs H Q) := fun pins s σ H vs us Q I r h => h.elim (h1 pins s σ H vs us Q I r) (h2 pins s σ H vs us Q I r)
/-- of two readings of one call, the one that the first argument asks for -/
def orL (p : D → Hm → Bool) (F1 F2 : FD) : FD := fun as h => match as with
  | a :: _ => if p a h = true then F1 as h else F2 as h
  | [] => .bad
theorem o_orL {f : Value} {p : D → Hm → Bool} {F1 F2 : FD} (h1 : ∀ X W, At g N sc k X W → ∃ r, CallR X f r ∧ OkL g r F1) (h2 : ∀ X W, At g N sc k X W → ∃ r, CallR X f r ∧ OkL g r F2) : ∀ X W, At g N sc k X W → ∃ r, CallR X f r ∧ OkL g r (orL p F1 F2) := fun X W c => by
  obtain ⟨r1, c1, k1⟩ := h1 X W c
  obtain ⟨r2, c2, k2⟩ := h2 X W c
  refine ⟨_, CallR.or c1 c2, fun W σ G ι H h a x Q rh ra pp => ?_⟩
  unfold orL at pp
  split at pp
  · split at pp
    · exact .inl (k1 W σ G ι H h _ x Q rh ra pp)
    · exact .inr (k2 W σ G ι H h _ x Q rh ra pp)
  · exact pp.elim
def isDK (a : D) (h : Hm) : Bool := (rdD h a).isSome
def isLI (a : D) (h : Hm) : Bool := ((rdS h a).bind intsD).isSome
/-- sorted(x): of a dict its keys, of ints, of other data -/
def fSortA : FD := orL isDK (f1 (fSortK fun kvs => kvs.map (·.1))) (orL isLI (f1 (fun x h => match rdL h x with | some _ => fSort x h | none => .bad)) (f1 fSortD))
theorem o_sortA : ∀ X W, At g N sc k X W → ∃ r, CallR X (.builtin "sorted") r ∧ OkL g r fSortA := o_orL o_sortK (o_orL o_sort o_sortD)
end
end MP
end L2

set_option Elab.async false
set_option linter.all false
set_option maxRecDepth 100000
set_option maxHeartbeats 2000000
namespace L2
namespace MP
open PySem PySem.Spec PySem.Calls PyProof.Rows
section
variable {g : GX} {G : GP} {ι : List Addr} {H : Hp} {h : Hm} {w : World} {K : PySem.W.Frag} {ca : Nat → Option Addr}
/-! ### a call that looks at no place: it may be read with no places at all -/
open Classical in
noncomputable def pinAll (G : GP) (ι : List Addr) (H : Hp) (h : Hm) : Hp := fun a => if ∃ l o, h.get l = some o ∧ ι[l]? = some a then H a else G.p a
theorem get_nil {l : Nat} {o : MO} : Hm.get [] l ≠ some o := fun e => by simp [Hm.get] at e
theorem RH.frame (r : RH w K ca G ι H h) : RH w K ca ⟨G.f, pinAll G ι H h⟩ [] H [] := by
  refine ⟨r.le, fun a o e => ?_, fun a o e => ?_, rfl, fun l o e => absurd e get_nil, fun l l' o o' a e => absurd e get_nil⟩
  · have e : pinAll G ι H h a = some o := e
    unfold pinAll at e
    split at e
    · exact e
    · exact r.pin a o e
  · have e : pinAll G ι H h a = some o := e
    unfold pinAll at e
    split at e
    · rename_i hc
      obtain ⟨l, mo, hl, hi⟩ := hc
      obtain ⟨a', u, i', ⟨f0, _⟩, _, _⟩ := r.obj l mo hl
      rw [hi] at i'
      cases i'
      exact f0
    · exact r.dis a o e
theorem RH.unframe (r : RH w K ca G ι H h) {G2 : GP} {H2 : Hp} (gs : Same G.f G2.f) (gq : G2.p = pinAll G ι H h) (r2 : RH w K ca G2 [] H2 []) : RH w K ca ⟨G2.f, G.p⟩ ι H2 h := by
  have inP : ∀ a o, G.p a = some o → G2.p a = some o := fun a o e => by
    rw [gq]
    unfold pinAll
    split
    · exact r.pin a o e
    · exact e
  refine ⟨r2.le, fun a o e => r2.pin a o (inP a o e), fun a o e => r2.dis a o (inP a o e), r.len, fun l o e => ?_, r.inj⟩
  obtain ⟨a, u, i, ⟨_, p0⟩, hu, ro⟩ := r.obj l o e
  have hp : G2.p a = some u := by
    rw [gq]
    unfold pinAll
    rw [if_pos ⟨l, o, e, i⟩]
    exact hu
  exact ⟨a, u, i, ⟨r2.dis a u hp, p0⟩, r2.pin a u hp, ro.mono gs (List.prefix_refl _)⟩
def frD (F : FD) : FD := fun as h => if D.lows 0 as = true then (match F as [] with
  | .ok v [] => .ok v h
  | .exc c [] => .exc c h
  | _ => .bad) else .bad
theorem spF_frame {F : FD} {n : Nat} {vs : List V} {Q : VK} {E : XK} (s : spF g (frD F) n vs H Q E) : spF g F n vs H Q E := by
  obtain ⟨hl, G, ι, as, h, ra, rh, p⟩ := s
  unfold frD at p
  split at p
  · rename_i ho
    refine ⟨hl, ⟨G.f, pinAll G ι H h⟩, [], as, [], ?_, rh.frame, ?_⟩
    · have r1 := ra.cut 0 ho
      rw [List.take_zero] at r1
      exact RepL.mono (G := G) (G' := ⟨G.f, pinAll G ι H h⟩) (Same.refl G.f) (List.prefix_refl _) r1
    · cases e : F as [] with
      | ok v h' =>
        rw [e] at p
        cases h' with
        | cons _ _ => exact p.elim
        | nil =>
          intro G2 ι2 H2 x gr rh2 rx
          have e0 : ι2 = [] := List.length_eq_zero_iff.mp rh2.len
          subst e0
          exact p ⟨G2.f, G.p⟩ ι H2 x ⟨gr.s, List.prefix_refl _, rfl⟩ (rh.unframe gr.s gr.q rh2) (Rep.mono (G := G2) (G' := ⟨G2.f, G.p⟩) (Same.refl G2.f) List.nil_prefix rx)
      | exc c h' =>
        rw [e] at p
        cases h' with
        | cons _ _ => exact p.elim
        | nil =>
          intro G2 ι2 H2 gr rh2
          have e0 : ι2 = [] := List.length_eq_zero_iff.mp rh2.len
          subst e0
          exact p ⟨G2.f, G.p⟩ ι H2 ⟨gr.s, List.prefix_refl _, rfl⟩ (rh.unframe gr.s gr.q rh2)
      | bad => rw [e] at p; exact p.elim
  · exact p.elim
theorem FnG.frame {P : Program} {w : World} {K : PySem.W.Frag} {mg : Str → Option Value} {base : Heap} {CX : CXT} {k : Nat} {f : Addr} {fd : FuncData} {ps : List Str} {F : FD} {n : Nat} (x : FnG P w K mg base CX k f fd ps (spF g F n)) : FnG P w K mg base CX k f fd ps (spF g (frD F) n) :=
  ⟨fun vs H Q E s => x.len vs H Q E (spF_frame s), fun A outer s H args us vs Q E hr hg he hb hv sp => x.run A outer s H args us vs Q E hr hg he hb hv (spF_frame sp)⟩
theorem FA.of0F {j : Nat} {x qual : Str} {params : Arguments} {body : List Stmt} {scope : Scope} {f : Addr} {fd : FuncData} {N ps : List Str} {m : MS} (F : FunD g.K x qual params body scope [] [] f fd) (S : FnScope N ps scope) (hb : SB g N (dsc scope) j body m)
    (h : ∀ (kV doc pm : Value) (an : Option Addr) (cdv ct : Value) (us : List Value), us.length = ps.length → bindArgs (PySem.W.fnOf x qual params body scope .none kV doc pm an cdv ct) ⟨us, []⟩ = pure (ps.zip us)) : FA g (j + 1) f (fdD (frD (runF N.length m)) ps.length []) := by
  have B := F.bindsN (ps := ps) h
  obtain ⟨oc, od, dV, kV, doc, pm, an, cdv, ct, osl, rfl, lk, hcd, _, _⟩ := F.ex
  exact ⟨⟨_, ps, [], [], [], frD (runF N.length m), (fn_mp lk hcd S hb).frame, B, .nil, fun _ _ => .nil, fun as h => rfl⟩, F.kp⟩
/-- what a framed call gives, out of one look with no places -/
theorem fr_ok {F : FD} {n : Nat} {as : List D} {v : D} (e : F as [] = .ok v []) (hl : D.lows 0 as = true) (hn : as.length = n) (h : Hm) : fdD (frD F) n [] as h = .ok v h := by
  unfold fdD frD
  simp [hn, hl, e]
end
end MP
end L2

set_option Elab.async false
set_option linter.all false
set_option maxRecDepth 100000
set_option maxHeartbeats 2000000
namespace L2
namespace MP
open PySem PySem.Spec PySem.Calls PyProof.Rows
/-! ### xs.extend(t), t a tuple -/
theorem meets_extT (l b : Addr) (items : Array Value) (n : Nat) (items2 : Array Value) (hlong : ¬(!items.isEmpty && Builtin.List.listTooLong (items.size + items2.size)) = true) (hc1 : items.size ≤ sizeLine) (hs2 : items.size + items2.size ≤ sizeLine + 1) :
    Meets (Builtin.«list.extend» ⟨[.ref l, .ref b], []⟩) (fun _ R s => s.heap.get? l = some { cls := .type "list", dict := none, data := .seq items n, slots := #[] } ∧ (∃ o n2, s.heap.get? b = some o ∧ o.cls = .type "tuple" ∧ o.data = .seq items2 n2) ∧ R (.ok (.ret Value.none)) { s with heap := s.heap.update l (Obj.mapSeq fun x => x ++ items2), toks := s.toks }) :=
  .of_wp fun prog w A R s h => by
    obtain ⟨hl, ⟨o, n2, ho, hc, hd⟩, hR⟩ := h
    show wpAny _ A.in1 (Builtin.List.listExtendWith (.ref l) (.ref b) .none) _ _ s
    unfold Builtin.List.listExtendWith
    refine wpAny_bind (wpAny_typeOf ⟨o, ho, hc⟩ ?_)
    have h1 : (Builtin.List.listSameRef (.ref l) (.ref b) || Value.type "tuple" == Value.type "list" || Value.type "tuple" == Value.type "tuple") = true := by simp
    simp only [h1, if_true]
    refine wpAny_bind ?_
    unfold Builtin.List.listItems
    refine wpAny_bind (wpAny_seqItems ho hd (wpAny_pure ?_))
    refine wpAny_bind ?_
    refine wpAny_bind (wpAny_seqItems hl rfl (wpAny_pure ?_))
    rw [if_neg hlong]
    show wpAny _ A.in1 (updateSeq l (· ++ items2) >>= fun _ => ret .none) _ _ s
    refine wpAny_bind (wpAny_updateSeq hl rfl (hz := hc1) (_hz' := by rw [Array.size_append]; exact hs2) ?_)
    exact wpAny_pure ⟨_, rfl, hR⟩
def rExtendT (K : PySem.W.Frag) : V → List V → Hp → VK → Prop := fun x vs H Q => ∃ l b xs zs, x = .ref l ∧ vs = [.ref b] ∧ H l = some (.lst xs) ∧ SqT K H b zs ∧ xs.length + zs.length ≤ sizeLine ∧ Q .non (upd H l (.lst (xs ++ zs)))
theorem mt_extendT {X : Cx} : MtR X "list.extend" (rExtendT X.K) := by
  intro pins s σ H x vs v us Q I rx rv h
  obtain ⟨l, b, xs, zs, rfl, rfl, hH, hB, hz, q⟩ := h
  cases rx
  obtain ⟨u, rfl, ru⟩ := rv.one
  cases ru
  obtain ⟨z, its, n, r, hl, e⟩ := I.lstM hH
  obtain ⟨its2, r2, ⟨o2, e2, c2, n2, d2⟩, z2⟩ := I.tuple hB
  have l2 := r2.length
  have l1 := r.length
  have hsz : its.toArray.size + its2.toArray.size ≤ sizeLine := by rw [List.size_toArray, List.size_toArray]; omega
  have hlong : ¬ (!its.toArray.isEmpty && Builtin.List.listTooLong (its.toArray.size + its2.toArray.size)) = true := by
    rw [notLongL hsz, Bool.and_false]
    exact Bool.false_ne_true
  refine call_meets PySem.F.slot_list_extend ⟨_, e, rfl⟩ PySem.F.entry_list_extend (PySem.F.args_list_extend_2 _ _) (meets_extT l b its.toArray n its2.toArray hlong (by rw [List.size_toArray]; omega) (by omega)) ⟨e, ⟨o2, n2, e2, c2, d2⟩, ?_⟩
  refine ⟨.non, _, I.lset (its' := its ++ its2) hH e (by simp) (r.append r2) ?_, rfl, q⟩
  rw [List.length_append]
  omega
theorem MtR.or {X : Cx} {id : String} {r1 r2 : V → List V → Hp → VK → Prop} (h1 : MtR X id r1) (h2 : MtR X id r2) : MtR X id (fun x vs H Q => r1 x vs H Q ∨ r2 x vs H Q) := fun pins s σ H x xs v us Q I rx rv h => h.elim (h1 pins s σ H x xs v us Q I rx rv) (h2 pins s σ H x xs v us Q I rx rv)
def fExtG : FM := fun d as h => match d, as with
  | .loc l, [.tup ys] => (match h.get l with
    | some (.lst xs) => if xs.length + ys.length ≤ LIM then .ok .non (h.set l (some (.lst (xs ++ ys)))) else .bad
    | _ => .bad)
  | _, _ => fExt d as h
section
variable {g : GX} {N : List Str} {sc : SC} {k : Nat} {W : XW} {σ : St} {G : GP} {ι : List Addr} {H : Hp} {h : Hm} {ev : Ev} {w : World} {K : PySem.W.Frag} {ca : Nat → Option Addr}
theorem t_extG : ∀ X W, At g N sc k X W → ∃ r, MtR X "list.extend" r ∧ OkM g r fExtG := fun X W c => by
  obtain ⟨r, h1, h2⟩ := t_ext (g := g) (N := N) (sc := sc) (k := k) X W c
  refine ⟨_, MtR.or h1 mt_extendT, fun W σ G ι H h d as v xs Q rh r ra p => ?_⟩
  unfold fExtG at p
  split at p
  · rename_i l ys
    cases hl : h.get l with
    | none => simp only [hl] at p; exact p.elim
    | some mo =>
      simp only [hl] at p
      cases mo with
      | lst zs =>
        simp only at p
        split at p
        · rename_i hz
          obtain ⟨a, u, rfl, hi, _, hu, ro⟩ := rh.loc hl r
          cases ro with
          | lst rl =>
            cases ra with
            | cons r1 t1 =>
              cases t1
              cases r1 with
              | tup q2 rl2 =>
                exact .inr ⟨a, _, _, _, rfl, rfl, hu, by rw [c.eK]; exact same_sqT rh.le q2, by rw [← rl.length, ← rl2.length, lim_eq]; exact hz, p G ι _ _ Gr.refl (rh.wr hl hi (.lst (rl.app rl2))) .non⟩
        · exact p.elim
      | dct _ => exact p.elim
      | ins _ _ => exact p.elim
  · exact .inl (h2 W σ G ι H h d as v xs Q rh r ra p)
/-- xs + ys, a list that may be changed -/
def fAddN : D → D → Hm → Res D := fun a b h => match lstH h a, lstH h b with
  | some xs, some ys => if xs.length + ys.length ≤ LIM then .ok (.loc h.length) (h ++ [some (.lst (xs ++ ys))]) else .bad
  | _, _ => .bad
theorem o_addN : ∀ X W, At g N sc k X W → ∃ r, OpR X (binaryOp .Add) r ∧ Ok2 g r fAddN := fun X W c => by
  refine ⟨_, op_cat, fun W σ G ι H h a b x y Q rh ra rb p => ?_⟩
  unfold fAddN at p
  split at p
  · rename_i xs ys e1 e2
    split at p
    · rename_i hz
      obtain ⟨p1, vs, rfl, hH, rl⟩ := lstH_ok rh ra e1
      obtain ⟨p2, us, rfl, hH2, rl2⟩ := lstH_ok rh rb e2
      exact ⟨p1, p2, vs, us, rfl, rfl, hH, hH2, by rw [← rl.length, ← rl2.length, lim_eq]; exact hz, new_loc rh (fun _ _ => .lst (rl.app rl2)) p⟩
    · exact p.elim
  · exact p.elim
end
end MP
end L2

set_option Elab.async false
set_option linter.all false
set_option maxRecDepth 100000
set_option maxHeartbeats 2000000
namespace L2
namespace MP
open PySem PySem.Spec PySem.Calls PyProof.Rows
section
variable {g : GX} {N : List Str} {sc : SC} {k : Nat} {W : XW} {σ : St} {G : GP} {ι : List Addr} {H : Hp} {h : Hm} {ev : Ev} {w : World} {K : PySem.W.Frag} {ca : Nat → Option Addr}
/-! ### calls with keywords -/
def SK (g : GX) (N : List Str) (sc : SC) (k : Nat) (kws : List Keyword) (m : MA) : Prop := ∀ X W, At g N sc k X W → PK X kws (tA g W m)
theorem pk_imp {X : Cx} {kws : List Keyword} {t t' : TA} (h : PK X kws t) (i : ∀ σ H Q, t' σ H Q → t σ H Q) : PK X kws t' := ⟨fun pos pins s σ H Q I q => h.run pos pins s σ H Q I (i _ _ _ q)⟩
theorem sk_nil : SK g N sc k [] aNil := fun X W c => pk_imp pk_nil fun σ H Q q => by
  obtain ⟨G, ι, e, h, rs, rh, p⟩ := q
  exact p.here rh RepL.nil
theorem sk_cons {nm : Option Str} {e : Expr} {kpos : Pos} {kws : List Keyword} {ma : ME} {mr : MA} (ha : SE g N sc k e ma) (hr : SK g N sc k kws mr) : SK g N sc k (⟨nm, e, kpos⟩ :: kws) (aCons ma mr) := fun X W c =>
  pk_imp (pk_cons (ha X W c) (hr X W c)) fun σ H Q q => by
    obtain ⟨G, ι, e, h, rs, rh, p⟩ := q
    refine tE_go rs rh p fun v h1 G1 ι1 H1 x _ gr rh1 rs1 rx p1 => tA_go rs1 rh1 p1 fun v2 h2 G2 ι2 H2 y _ gr2 rh2 rs2 ry p2 => ?_
    exact p2.here rh2 (RepL.cons (rx.mono gr2.s gr2.p) ry)
abbrev FDK := List D → List D → Hm → Res D
/-- the def at f, called with n values and the keywords ks, is worth F -/
structure FAK (g : GX) (j : Nat) (f : Addr) (n : Nat) (ks : List Str) (F : FDK) : Prop where
  ex : ∃ (fd : FuncData) (ps : List Str) (gu : List Value → List Value → List Value) (gv : List V → List V → List V) (gd : List D → List D → List D) (F0 : FD), FnG g.P g.w g.K g.mg g.base (L2.CX g.P g.w) j f fd ps (spF g F0 ps.length) ∧ KBn g.K fd ps n ks gu gv ∧
    (∀ G ι as zs vs xs, as.length = n → zs.length = ks.length → RepL g.w g.K g.ca G ι as vs → RepL g.w g.K g.ca G ι zs xs → RepL g.w g.K g.ca G ι (gd as zs) (gv vs xs)) ∧
    (∀ as zs h, F as zs h = if as.length = n ∧ zs.length = ks.length ∧ (gd as zs).length = ps.length then F0 (gd as zs) h else .bad)
  kp : PySem.W.keepIn g.K (.ref f) = true
theorem run_fak {j : Nat} {f : Addr} {n : Nat} {ks : List Str} {F : FDK} (fa : FAK g j f n ks F) {X : Cx} (c : At g N sc k X W) (hr : Room j X.A) {pins : List (Addr × Obj)} {s : Shared} {Q : VK} {us ws : List Value} {vs xs : List V} {as zs : List D} (I : Inv X pins σ H s) (r : Vals vs us) (rz : Vals xs ws)
    (ra : RepL g.w g.K g.ca G ι as vs) (rk : RepL g.w g.K g.ca G ι zs xs) (rh : RH g.w g.K g.ca G ι H h) (p : PostR g W σ (RpE g) G ι (F as zs h) Q) : wpAny (model X.prog X.w) X.A (call (.ref f) us (ks.zip ws)) (EP X pins σ Q) X.xe s := by
  obtain ⟨fd, ps, gu, gv, gd, F0, ok, hb, hR, hF⟩ := fa.ex
  rw [hF] at p
  split at p
  · rename_i hlen
    obtain ⟨l1, l2, l3⟩ := hlen
    have r2 : Vals (gv vs xs) (gu us ws) := hb.rel r rz
    have ra2 := hR G ι as zs vs xs l1 l2 ra rk
    have hl : (gu us ws).length = ps.length := by rw [← r2.length, ← ra2.length]; exact l3
    have e0 := I.env0
    have kin : g.K.In s.heap := by rw [← c.eK]; exact I.kIn
    have hbs := hb.to s us ws kin (by rw [← r.length, ← ra.length]; exact l1) (by rw [← rz.length, ← rk.length]; exact l2)
    have ok' : FnG X.prog X.w X.K X.mg X.base (L2.CX X.prog X.w) j f fd ps (spF g F0 ps.length) := by
      rw [c.eP, c.ew, c.eK, c.em, c.eb]; exact ok
    have hsp : spF g F0 ps.length (gv vs xs) H Q (fun cls d H' => wx g.ca W cls d σ H') := by
      refine ⟨by rw [← ra2.length]; exact l3, G, ι, gd as zs, h, ra2, rh, ?_⟩
      cases e : F0 (gd as zs) h with
      | ok v h1 => rw [e] at p; exact p
      | exc x h1 => rw [e] at p; exact fun G' ι' H' gr rh' C hC => ⟨x, C, hC, rfl, rfl, p G' ι' H' gr rh'⟩
      | bad => rw [e] at p; exact p
    refine wpAny_call (codeAny_mono (ok'.run X.A X.stack s H ⟨us, ks.zip ws⟩ (gu us ws) (gv vs xs) Q _ hr c.gd e0 hbs r2 hsp) fun r s' hq => ?_)
    cases r with
    | error e => exact c.tk e s' (XE.of_call I (fun _ _ _ z => z) hq)
    | ok fl =>
      cases fl with
      | ret u => exact I.after hq
      | next => exact False.elim hq
      | brk => exact False.elim hq
      | cont => exact False.elim hq
  · exact p.elim
def mLK (F : FDK) (ma mk : MA) : ME := fun e h => (ma e h).bind fun as h1 => (mk e h1).bind fun zs h2 => F as zs h2
structure FOK (g : GX) (j : Nat) (x : Str) (n : Nat) (ks : List Str) (F : FDK) : Prop where
  ex : ∃ f, g.mg x = some (.ref f) ∧ FAK g j f n ks F
/-- f(e, .., k = v, ..) -/
theorem se_callK {x : Str} {p pos : Pos} {e : Expr} {es : List Expr} {kws : List Keyword} {F : FDK} {ma mk : MA} {j n : Nat} {ks : List Str} (fo : FOK g j x n ks F) (ha : SA g N sc k (e :: es) ma) (hw : SK g N sc k kws mk) (hj : j ≤ k := by decide)
    (hs : notStar e = true := by rfl) (hall : ∀ env, (backToKw pos (keywordEach kws env)).all (·.1.isSome) = true := by intro _; rfl) (hks : ∀ env, (backToKw pos (keywordEach kws env)).filterMap (·.1) = ks := by intro _; rfl)
    (hpl : ∀ env, ((backTo pos (starEach (e :: es) env)).any (·.1) || (backToKw pos (keywordEach kws env)).any (·.1.isNone)) = false := by intro _; rfl) (hg : sc.names.lookup x = some .globalImplicit := by rfl) (hdb : (x == ("__debug__" : Str)) = false := by decide) :
    SE g N sc k (.Call (.Name x p) (e :: es) kws pos) (mLK F ma mk) := fun X W c => by
  obtain ⟨f, hm, fa⟩ := fo.ex
  refine ⟨fun pins s σ H Q I q => ?_⟩
  obtain ⟨G, ι, ev, h, rs, rh, pp⟩ := q
  refine wpAny_Call_Name_kw (ld_glob I (c.gl hg) (by rw [c.em]; exact hm) ?_ hdb)
  have hk : PySem.W.keepIn X.K (.ref f) = true := by rw [c.eK]; exact fa.kp
  refine PySem.W.callWith_KW (h₀ := X.base) I.ok.mod.kin hk (hall _) (thn ((ha X W c).run pos pins s σ H _ I (tA_go rs rh pp fun v h1 G1 ι1 H1 x _ gr rh1 rs1 rx p1 => (⟨G1, ι1, v, h1, rh1, rs1, rx, p1⟩ : (fun (x : List V) (H1 : Hp) => ∃ G1 ι1 v h1, RH g.w g.K g.ca G1 ι1 H1 h1 ∧ RS g.w g.K g.ca G1 ι1 σ ev ∧ RepL g.w g.K g.ca G1 ι1 v x ∧ PostR g W σ (RpE g) G1 ι1 ((mk ev h1).bind fun zs h2 => F v zs h2) Q) x H1))) fun us s1 hh => ?_) (hpl _) (star_no hs)
  obtain ⟨vs, H1, I1, r, G1, ι1, v, h1, rh1, rs1, rx, p1⟩ := hh
  refine thn ((hw X W c).run pos pins s1 σ H1 _ I1 (tA_go rs1 rh1 p1 fun v2 h2 G2 ι2 H2 x2 _ gr rh2 rs2 rx2 p2 => (⟨G2, ι2, v2, h2, rh2, rx.mono gr.s gr.p, rx2, p2⟩ : (fun (x2 : List V) (H2 : Hp) => ∃ G2 ι2 v2 h2, RH g.w g.K g.ca G2 ι2 H2 h2 ∧ RepL g.w g.K g.ca G2 ι2 v vs ∧ RepL g.w g.K g.ca G2 ι2 v2 x2 ∧ PostR g W σ (RpE g) G2 ι2 (F v v2 h2) Q) x2 H2))) fun ws s2 hh => ?_
  obtain ⟨xs, H2, I2, rz, G2, ι2, v2, h2, rh2, ra, rk, p2⟩ := hh
  refine ⟨I2.kIn, ?_⟩
  rw [hks]
  exact run_fak fa c (c.room.mono hj) I2 r rz ra rk rh2 p2
/-- f(k = v, ..) -/
theorem se_callK0 {x : Str} {p pos : Pos} {kws : List Keyword} {F : FDK} {mk : MA} {j : Nat} {ks : List Str} (fo : FOK g j x 0 ks F) (hw : SK g N sc k kws mk) (hj : j ≤ k := by decide)
    (hall : ∀ env, (backToKw pos (keywordEach kws env)).all (·.1.isSome) = true := by intro _; rfl) (hks : ∀ env, (backToKw pos (keywordEach kws env)).filterMap (·.1) = ks := by intro _; rfl)
    (hpl : ∀ env, ((backTo pos (starEach [] env)).any (·.1) || (backToKw pos (keywordEach kws env)).any (·.1.isNone)) = false := by intro _; rfl) (hg : sc.names.lookup x = some .globalImplicit := by rfl) (hdb : (x == ("__debug__" : Str)) = false := by decide) :
    SE g N sc k (.Call (.Name x p) [] kws pos) (mLK F aNil mk) := fun X W c => by
  obtain ⟨f, hm, fa⟩ := fo.ex
  refine ⟨fun pins s σ H Q I q => ?_⟩
  obtain ⟨G, ι, ev, h, rs, rh, pp⟩ := q
  refine wpAny_Call_Name_kw (ld_glob I (c.gl hg) (by rw [c.em]; exact hm) ?_ hdb)
  have hk : PySem.W.keepIn X.K (.ref f) = true := by rw [c.eK]; exact fa.kp
  have pp : PostR g W σ (RpE g) G ι ((mk ev h).bind fun zs h2 => F [] zs h2) Q := pp
  refine PySem.W.callWith_KW0 (h₀ := X.base) I.ok.mod.kin hk (hall _) ?_ (hpl _)
  refine thn ((hw X W c).run pos pins s σ H _ I (tA_go rs rh pp fun v2 h2 G2 ι2 H2 x2 _ gr rh2 rs2 rx2 p2 => (⟨G2, ι2, v2, h2, rh2, rx2, p2⟩ : (fun (x2 : List V) (H2 : Hp) => ∃ G2 ι2 v2 h2, RH g.w g.K g.ca G2 ι2 H2 h2 ∧ RepL g.w g.K g.ca G2 ι2 v2 x2 ∧ PostR g W σ (RpE g) G2 ι2 (F [] v2 h2) Q) x2 H2))) fun ws s2 hh => ?_
  obtain ⟨xs, H2, I2, rz, G2, ι2, v2, h2, rh2, rk, p2⟩ := hh
  refine ⟨I2.kIn, ?_⟩
  rw [hks]
  exact run_fak fa c (c.room.mono hj) I2 .nil rz .nil rk rh2 p2
def mkDK (c : Nat) (F : FDK) : FDK := fun as zs h => match F (.loc h.length :: as) zs (h ++ [some (.ins c [])]) with
  | .ok .non h2 => (match h2.get h.length with
    | some (.ins c' fs) => fin1 h.length (.ins c' fs) (h2.set h.length none)
    | _ => .bad)
  | .exc x h2 => .exc x h2
  | _ => .bad
theorem run_mkDK {j n : Nat} {c0 : Nat} {C f : Addr} {ks : List Str} {F : FDK} (M : Mk g.K C f) (hC : g.ca c0 = some C) (fa : FAK g j f (n + 1) ks F) {X : Cx} (c : At g N sc k X W) (hr : Room (j + 1) X.A) {pins : List (Addr × Obj)} {s : Shared} {Q : VK} {us ws : List Value} {vs xs : List V} {as zs : List D} (I : Inv X pins σ H s) (r : Vals vs us) (rz : Vals xs ws)
    (ra : RepL g.w g.K g.ca G ι as vs) (rk : RepL g.w g.K g.ca G ι zs xs) (rh : RH g.w g.K g.ca G ι H h) (p : PostR g W σ (RpE g) G ι (mkDK c0 F as zs h) Q) : wpAny (model X.prog X.w) X.A (call (.ref C) us (ks.zip ws)) (EP X pins σ Q) X.xe s := by
  have hfin : ∀ x G' ι' H' h', Gr G ι G' ι' → RH g.w g.K g.ca G' ι' H' h' → ι'[h.length]? = some x → PostR g W σ (RpE g) G ι (match h'.get h.length with
    | some (.ins c' fs) => fin1 h.length (.ins c' fs) (h'.set h.length none)
    | _ => .bad) Q → Q (.ref x) H' := fun x G' ι' H' h' gr rh' hx p => by
    cases hl : h'.get h.length with
    | none => simp only [hl] at p; exact p.elim
    | some mo =>
      simp only [hl] at p
      cases mo with
      | lst _ => exact p.elim
      | dct _ => exact p.elim
      | ins c' fs =>
        obtain ⟨a, u, e1, hi, _, hu, ro⟩ := rh'.loc hl (.loc hx)
        cases e1
        cases ro with
        | ins hC' rf =>
          obtain ⟨gr2, rh2⟩ := rh'.freeze hl hi hu
          exact fin1_post rh.len (gr.trans gr2) rh2 (.ins hC' (show upd G'.f x _ x = some _ from upd_same) (rf.mono gr2.s gr2.p)) p
  obtain ⟨fd, ps, gu, gv, gd, F0, ok, hb, hR, hF⟩ := fa.ex
  have ok' : FnG X.prog X.w X.K X.mg X.base (L2.CX X.prog X.w) j f fd ps (spF g F0 ps.length) := by
    rw [c.eP, c.ew, c.eK, c.em, c.eb]; exact ok
  have MX : Mk X.K C f := by rw [c.eK]; exact M
  unfold mkDK at p
  rw [hF] at p
  by_cases hlen : (D.loc h.length :: as).length = n + 1 ∧ zs.length = ks.length ∧ (gd (D.loc h.length :: as) zs).length = ps.length
  · rw [if_pos hlen] at p
    obtain ⟨l1, l2, l3⟩ := hlen
    have nx : H (s.heap.objs.size + 1) = none := I.hok.fresh (Nat.le_succ _)
    have ndx : H s.heap.objs.size = none := I.hok.fresh (Nat.le_refl _)
    have nex : s.heap.objs.size ≠ s.heap.objs.size + 1 := Nat.ne_of_lt (Nat.lt_succ_self _)
    have I2 := Inv.made (C := C) I
    have rh0 := rh.other (o := .own (s.heap.objs.size + 1)) ndx
    obtain ⟨gr1, rh1⟩ := rh0.new (p := s.heap.objs.size + 1) (o := .ins C s.heap.objs.size []) (mo := .ins c0 []) (by rw [upd_ne (Ne.symm nex)]; exact nx) (.ins hC .nil)
    have hix : (ι ++ [s.heap.objs.size + 1])[h.length]? = some (s.heap.objs.size + 1) := by rw [← rh.len]; simp
    have ra1 : RepL g.w g.K g.ca G (ι ++ [s.heap.objs.size + 1]) (.loc h.length :: as) (V.ref (s.heap.objs.size + 1) :: vs) := .cons (.loc hix) (ra.mono gr1.s gr1.p)
    have ra2 := hR G _ _ _ _ _ l1 l2 ra1 (rk.mono gr1.s gr1.p)
    have r1 : Vals (V.ref (s.heap.objs.size + 1) :: vs) (Value.ref (s.heap.objs.size + 1) :: us) := .cons rfl r
    have r2 : Vals (gv (V.ref (s.heap.objs.size + 1) :: vs) xs) (gu (Value.ref (s.heap.objs.size + 1) :: us) ws) := hb.rel r1 rz
    have e1 : (Value.ref (s.heap.objs.size + 1) :: us).length = n + 1 := by rw [← r1.length, ← ra1.length]; exact l1
    have e2 : ws.length = ks.length := by rw [← rz.length, ← rk.length]; exact l2
    have hsp : spF g F0 ps.length (gv (V.ref (s.heap.objs.size + 1) :: vs) xs) (upd (upd H s.heap.objs.size (.own (s.heap.objs.size + 1))) (s.heap.objs.size + 1) (.ins C s.heap.objs.size [])) (fun v H2 => v = .non ∧ Q (.ref (s.heap.objs.size + 1)) H2) (fun cls d H' => wx g.ca W cls d σ H') := by
      refine ⟨by rw [← ra2.length]; exact l3, G, _, _, _, ra2, rh1, ?_⟩
      cases e : F0 (gd (.loc h.length :: as) zs) (h ++ [some (.ins c0 [])]) with
      | ok v h1 =>
        rw [e] at p
        intro G' ι' H' y gr rh' ry
        cases ry with
        | non => exact ⟨rfl, hfin _ G' ι' H' h1 (gr1.trans gr) rh' (pre_get gr.p hix) p⟩
        | _ => exact p.elim
      | exc x h1 =>
        rw [e] at p
        exact fun G' ι' H' gr rh' C' hC' => ⟨x, C', hC', rfl, rfl, p G' ι' H' (gr1.trans gr) rh'⟩
      | bad => rw [e] at p; exact p
    refine wpAny_call (make_map (f := f) I.kIn MX.makes MX.init (beq_iff_eq.mp MX.fn) (codeAny_mono (ok'.run _ X.stack _ _ ⟨Value.ref (s.heap.objs.size + 1) :: us, ks.zip ws⟩ (gu (Value.ref (s.heap.objs.size + 1) :: us) ws) _ _ _ (hr.make C us (ks.zip ws)) (guards_make c.gd)
      (I2.env0.make C us (ks.zip ws)) (hb.to _ (Value.ref (s.heap.objs.size + 1) :: us) ws (by rw [← c.eK]; exact I2.kIn) e1 e2) r2 hsp) fun r s' hq' => ?_))
    cases r with
    | error e => exact c.tk e s' (XE.of_call I2 (fun _ _ _ z => z) hq')
    | ok fl =>
      cases fl with
      | ret u =>
        obtain ⟨v, H', I3, rv, ev, q3⟩ := I2.after hq'
        subst ev
        exact ⟨rv, ⟨V.ref (s.heap.objs.size + 1), H', I3, rfl, q3⟩⟩
      | next => exact False.elim hq'
      | brk => exact False.elim hq'
      | cont => exact False.elim hq'
  · rw [if_neg hlen] at p; exact p.elim
/-- C(e, .., k = v, ..) -/
theorem se_makeK {x : Str} {p pos : Pos} {e : Expr} {es : List Expr} {kws : List Keyword} {F : FDK} {ma mk : MA} {j n c0 : Nat} {C f : Addr} {ks : List Str} (hm : g.mg x = some (.ref C)) (M : Mk g.K C f) (hC : g.ca c0 = some C) (fa : FAK g j f (n + 1) ks F) (ha : SA g N sc k (e :: es) ma) (hw : SK g N sc k kws mk) (hj : j + 1 ≤ k := by decide)
    (hs : notStar e = true := by rfl) (hall : ∀ env, (backToKw pos (keywordEach kws env)).all (·.1.isSome) = true := by intro _; rfl) (hks : ∀ env, (backToKw pos (keywordEach kws env)).filterMap (·.1) = ks := by intro _; rfl)
    (hpl : ∀ env, ((backTo pos (starEach (e :: es) env)).any (·.1) || (backToKw pos (keywordEach kws env)).any (·.1.isNone)) = false := by intro _; rfl) (hg : sc.names.lookup x = some .globalImplicit := by rfl) (hdb : (x == ("__debug__" : Str)) = false := by decide) :
    SE g N sc k (.Call (.Name x p) (e :: es) kws pos) (mLK (mkDK c0 F) ma mk) := fun X W c => by
  refine ⟨fun pins s σ H Q I q => ?_⟩
  obtain ⟨G, ι, ev, h, rs, rh, pp⟩ := q
  refine wpAny_Call_Name_kw (ld_glob I (c.gl hg) (by rw [c.em]; exact hm) ?_ hdb)
  have hk : PySem.W.keepIn X.K (.ref C) = true := by rw [c.eK]; exact M.kp
  refine PySem.W.callWith_KW (h₀ := X.base) I.ok.mod.kin hk (hall _) (thn ((ha X W c).run pos pins s σ H _ I (tA_go rs rh pp fun v h1 G1 ι1 H1 x _ gr rh1 rs1 rx p1 => (⟨G1, ι1, v, h1, rh1, rs1, rx, p1⟩ : (fun (x : List V) (H1 : Hp) => ∃ G1 ι1 v h1, RH g.w g.K g.ca G1 ι1 H1 h1 ∧ RS g.w g.K g.ca G1 ι1 σ ev ∧ RepL g.w g.K g.ca G1 ι1 v x ∧ PostR g W σ (RpE g) G1 ι1 ((mk ev h1).bind fun zs h2 => mkDK c0 F v zs h2) Q) x H1))) fun us s1 hh => ?_) (hpl _) (star_no hs)
  obtain ⟨vs, H1, I1, r, G1, ι1, v, h1, rh1, rs1, rx, p1⟩ := hh
  refine thn ((hw X W c).run pos pins s1 σ H1 _ I1 (tA_go rs1 rh1 p1 fun v2 h2 G2 ι2 H2 x2 _ gr rh2 rs2 rx2 p2 => (⟨G2, ι2, v2, h2, rh2, rx.mono gr.s gr.p, rx2, p2⟩ : (fun (x2 : List V) (H2 : Hp) => ∃ G2 ι2 v2 h2, RH g.w g.K g.ca G2 ι2 H2 h2 ∧ RepL g.w g.K g.ca G2 ι2 v vs ∧ RepL g.w g.K g.ca G2 ι2 v2 x2 ∧ PostR g W σ (RpE g) G2 ι2 (mkDK c0 F v v2 h2) Q) x2 H2))) fun ws s2 hh => ?_
  obtain ⟨xs, H2, I2, rz, G2, ι2, v2, h2, rh2, ra, rk, p2⟩ := hh
  refine ⟨I2.kIn, ?_⟩
  rw [hks]
  exact run_mkDK M hC fa c (c.room.mono hj) I2 r rz ra rk rh2 p2
/-- C(k = v, ..) -/
theorem se_makeK0 {x : Str} {p pos : Pos} {kws : List Keyword} {F : FDK} {mk : MA} {j c0 : Nat} {C f : Addr} {ks : List Str} (hm : g.mg x = some (.ref C)) (M : Mk g.K C f) (hC : g.ca c0 = some C) (fa : FAK g j f 1 ks F) (hw : SK g N sc k kws mk) (hj : j + 1 ≤ k := by decide)
    (hall : ∀ env, (backToKw pos (keywordEach kws env)).all (·.1.isSome) = true := by intro _; rfl) (hks : ∀ env, (backToKw pos (keywordEach kws env)).filterMap (·.1) = ks := by intro _; rfl)
    (hpl : ∀ env, ((backTo pos (starEach [] env)).any (·.1) || (backToKw pos (keywordEach kws env)).any (·.1.isNone)) = false := by intro _; rfl) (hg : sc.names.lookup x = some .globalImplicit := by rfl) (hdb : (x == ("__debug__" : Str)) = false := by decide) :
    SE g N sc k (.Call (.Name x p) [] kws pos) (mLK (mkDK c0 F) aNil mk) := fun X W c => by
  refine ⟨fun pins s σ H Q I q => ?_⟩
  obtain ⟨G, ι, ev, h, rs, rh, pp⟩ := q
  refine wpAny_Call_Name_kw (ld_glob I (c.gl hg) (by rw [c.em]; exact hm) ?_ hdb)
  have hk : PySem.W.keepIn X.K (.ref C) = true := by rw [c.eK]; exact M.kp
  have pp : PostR g W σ (RpE g) G ι ((mk ev h).bind fun zs h2 => mkDK c0 F [] zs h2) Q := pp
  refine PySem.W.callWith_KW0 (h₀ := X.base) I.ok.mod.kin hk (hall _) ?_ (hpl _)
  refine thn ((hw X W c).run pos pins s σ H _ I (tA_go rs rh pp fun v2 h2 G2 ι2 H2 x2 _ gr rh2 rs2 rx2 p2 => (⟨G2, ι2, v2, h2, rh2, rx2, p2⟩ : (fun (x2 : List V) (H2 : Hp) => ∃ G2 ι2 v2 h2, RH g.w g.K g.ca G2 ι2 H2 h2 ∧ RepL g.w g.K g.ca G2 ι2 v2 x2 ∧ PostR g W σ (RpE g) G2 ι2 (mkDK c0 F [] v2 h2) Q) x2 H2))) fun ws s2 hh => ?_
  obtain ⟨xs, H2, I2, rz, G2, ι2, v2, h2, rh2, rk, p2⟩ := hh
  refine ⟨I2.kIn, ?_⟩
  rw [hks]
  exact run_mkDK M hC fa c (c.room.mono hj) I2 .nil rz .nil rk rh2 p2
/-! ### a def's worth, with keywords -/
theorem FAK.of1 {j : Nat} {x qual : Str} {params : Arguments} {body : List Stmt} {scope : Scope} {dvs : List V} {f : Addr} {fd : FuncData} {N ps : List Str} {m : MS} (n : Nat) (ks : List Str) {dds : List D} (gp : {α : Type} → List α → List α → List α → List α) (F : FunD g.K x qual params body scope dvs [] f fd) (S : FnScope N ps scope) (hb : SB g N (dsc scope) j body m) (hd : dvs ≠ [])
    (hrel : ∀ {vs ds zs : List V} {us its ws : List Value}, Vals vs us → Vals ds its → Vals zs ws → Vals (gp vs ds zs) (gp us its ws))
    (hrep : ∀ G ι as zs vs xs, as.length = n → zs.length = ks.length → RepL g.w g.K g.ca G ι as vs → RepL g.w g.K g.ca G ι zs xs → RepL g.w g.K g.ca G ι (gp as dds zs) (gp vs dvs xs))
    (h : ∀ (T : Addr) (kV doc pm : Value) (an : Option Addr) (cdv ct : Value) (us its ws : List Value), us.length = n → its.length = dvs.length → ws.length = ks.length →
      ∃ k, bindArgs (PySem.W.fnOf x qual params body scope (.ref T) kV doc pm an cdv ct) ⟨us, ks.zip ws⟩ = seqItems? (.ref T) >>= k ∧ k (some its.toArray) = pure (ps.zip (gp us its ws))) (kp : PySem.W.keepIn g.K (.ref f) = true) :
    FAK g (j + 1) f n ks (fun as zs h => if as.length = n ∧ zs.length = ks.length ∧ (gp as dds zs).length = ps.length then runF N.length m (gp as dds zs) h else .bad) := by
  obtain ⟨its, B⟩ := F.kbindsD n ks gp hd hrel h
  obtain ⟨oc, od, dV, kV, doc, pm, an, cdv, ct, osl, rfl, lk, hcd, _, _⟩ := F.ex
  exact ⟨⟨_, ps, _, _, fun as zs => gp as dds zs, runF N.length m, fn_mp lk hcd S hb, B, hrep, fun _ _ _ => rfl⟩, kp⟩
end
end MP
end L2

set_option Elab.async false
set_option linter.all false
set_option maxRecDepth 100000
set_option maxHeartbeats 2000000
namespace L2
namespace MP
open PySem PySem.Spec PySem.Calls PyProof.Rows
def src {α : Type} (us its ws : List α) : Nat → List α
  | 0 => us
  | 1 => its
  | _ => ws
/-- the parameters' values out of the written ones (0), the defaults (1), the keywords' (2) -/
def pick {α : Type} (us its ws : List α) : List (Nat × Nat) → List α
  | [] => []
  | p :: r => ((src us its ws p.1)[p.2]?).toList ++ pick us its ws r
theorem vals_at : ∀ {vs : List V} {us : List Value} (_ : Vals vs us) (i : Nat), (vs[i]? = none ∧ us[i]? = none) ∨ ∃ v u, vs[i]? = some v ∧ us[i]? = some u ∧ RelV v u
  | _, _, .nil, i => .inl ⟨rfl, rfl⟩
  | _, _, .cons a t, 0 => .inr ⟨_, _, rfl, rfl, a⟩
  | _, _, .cons a t, i + 1 => vals_at t i
theorem repl_at {w : World} {K : PySem.W.Frag} {ca : Nat → Option Addr} {G : GP} {ι : List Addr} : ∀ {ds : List D} {vs : List V} (_ : RepL w K ca G ι ds vs) (i : Nat), (ds[i]? = none ∧ vs[i]? = none) ∨ ∃ d v, ds[i]? = some d ∧ vs[i]? = some v ∧ Rep w K ca G ι d v
  | _, _, .nil, i => .inl ⟨rfl, rfl⟩
  | _, _, .cons a t, 0 => .inr ⟨_, _, rfl, rfl, a⟩
  | _, _, .cons a t, i + 1 => repl_at t i
theorem pick_vals {vs ds zs : List V} {us its ws : List Value} (a : Vals vs us) (b : Vals ds its) (c : Vals zs ws) : ∀ plan : List (Nat × Nat), Vals (pick vs ds zs plan) (pick us its ws plan)
  | [] => .nil
  | p :: r => by
    have ih := pick_vals a b c r
    have h : Vals (src vs ds zs p.1) (src us its ws p.1) := by
      obtain ⟨k, i⟩ := p
      match k with
      | 0 => exact a
      | 1 => exact b
      | _ + 2 => exact c
    show Vals (((src vs ds zs p.1)[p.2]?).toList ++ _) (((src us its ws p.1)[p.2]?).toList ++ _)
    rcases vals_at h p.2 with ⟨e1, e2⟩ | ⟨v, u, e1, e2, hr⟩
    · rw [e1, e2]; exact ih
    · rw [e1, e2]; exact .cons hr ih
theorem pick_rep {w : World} {K : PySem.W.Frag} {ca : Nat → Option Addr} {G : GP} {ι : List Addr} {as ds zs : List D} {us its ws : List V} (a : RepL w K ca G ι as us) (b : RepL w K ca G ι ds its) (c : RepL w K ca G ι zs ws) : ∀ plan : List (Nat × Nat), RepL w K ca G ι (pick as ds zs plan) (pick us its ws plan)
  | [] => .nil
  | p :: r => by
    have ih := pick_rep a b c r
    have h : RepL w K ca G ι (src as ds zs p.1) (src us its ws p.1) := by
      obtain ⟨k, i⟩ := p
      match k with
      | 0 => exact a
      | 1 => exact b
      | _ + 2 => exact c
    show RepL w K ca G ι (((src as ds zs p.1)[p.2]?).toList ++ _) (((src us its ws p.1)[p.2]?).toList ++ _)
    rcases repl_at h p.2 with ⟨e1, e2⟩ | ⟨v, u, e1, e2, hr⟩
    · rw [e1, e2]; exact ih
    · rw [e1, e2]; exact .cons hr ih
def fkD (F0 : FD) (n m l : Nat) (plan : List (Nat × Nat)) (dds : List D) : FDK := fun as zs h => if as.length = n ∧ zs.length = m ∧ (pick as dds zs plan).length = l then F0 (pick as dds zs plan) h else .bad
section
variable {g : GX}
theorem FAK.ofP {j : Nat} {x qual : Str} {params : Arguments} {body : List Stmt} {scope : Scope} {dvs : List V} {f : Addr} {fd : FuncData} {N ps : List Str} {m : MS} (n : Nat) (ks : List Str) (plan : List (Nat × Nat)) {dds : List D} (F : FunD g.K x qual params body scope dvs [] f fd) (S : FnScope N ps scope) (hb : SB g N (dsc scope) j body m) (hd : dvs ≠ [])
    (rd : ∀ G ι, RepL g.w g.K g.ca G ι dds dvs)
    (h : ∀ (T : Addr) (kV doc pm : Value) (an : Option Addr) (cdv ct : Value) (us its ws : List Value), us.length = n → its.length = dvs.length → ws.length = ks.length →
      ∃ k, bindArgs (PySem.W.fnOf x qual params body scope (.ref T) kV doc pm an cdv ct) ⟨us, ks.zip ws⟩ = seqItems? (.ref T) >>= k ∧ k (some its.toArray) = pure (ps.zip (pick us its ws plan))) (kp : PySem.W.keepIn g.K (.ref f) = true) :
    FAK g (j + 1) f n ks (fkD (runF N.length m) n ks.length ps.length plan dds) :=
  FAK.of1 n ks (fun us its ws => pick us its ws plan) F S hb hd (fun a b c => pick_vals a b c plan) (fun G ι as zs vs xs _ _ ra rk => pick_rep ra (rd G ι) rk plan) h kp
theorem FAK.ofP0 {j : Nat} {x qual : Str} {params : Arguments} {body : List Stmt} {scope : Scope} {f : Addr} {fd : FuncData} {N ps : List Str} {m : MS} (n : Nat) (ks : List Str) (plan : List (Nat × Nat)) (F : FunD g.K x qual params body scope [] [] f fd) (S : FnScope N ps scope) (hb : SB g N (dsc scope) j body m)
    (h : ∀ (kV doc pm : Value) (an : Option Addr) (cdv ct : Value) (us ws : List Value), us.length = n → ws.length = ks.length → bindArgs (PySem.W.fnOf x qual params body scope .none kV doc pm an cdv ct) ⟨us, ks.zip ws⟩ = pure (ps.zip (pick us [] ws plan))) (kp : PySem.W.keepIn g.K (.ref f) = true) :
    FAK g (j + 1) f n ks (fkD (runF N.length m) n ks.length ps.length plan []) := by
  have B : KBn g.K fd ps n ks (fun us ws => pick us [] ws plan) (fun vs zs => pick vs [] zs plan) := by
    obtain ⟨oc, od, dV, kV, doc, pm, an, cdv, ct, osl, rfl, lk, hcd, hD, hK⟩ := F.ex
    rcases hD with ⟨_, rfl⟩ | ⟨e, _⟩
    · exact ⟨fun s us ws _ l1 l2 => .of_eq (h kV doc pm an cdv ct us ws l1 l2), fun r1 r2 => pick_vals r1 .nil r2 plan⟩
    · exact absurd rfl e
  obtain ⟨oc, od, dV, kV, doc, pm, an, cdv, ct, osl, rfl, lk, hcd, _, _⟩ := F.ex
  exact ⟨⟨_, ps, _, _, fun as zs => pick as [] zs plan, runF N.length m, fn_mp lk hcd S hb, B, fun G ι as zs vs xs _ _ ra rk => pick_rep ra .nil rk plan, fun _ _ _ => rfl⟩, kp⟩
end
end MP
end L2

set_option Elab.async false
set_option linter.all false
set_option maxRecDepth 100000
set_option maxHeartbeats 2000000
namespace L2
namespace MP
open PySem PySem.Spec PySem.Calls PyProof.Rows
/-! ### list(d) -/
section
variable {g : GX} {N : List Str} {sc : SC} {k : Nat}
theorem call_lstK {X : Cx} (hc : X.calm = true) : CallR X (.type "list") (fun vs H Q => ∃ ca G ι h a kvs es, vs = [.ref a] ∧ RH X.w X.K ca G ι H h ∧ (a == sysModules) = false ∧ dok kvs ∧ Rd H a (.ext (dictφ a es)) ∧ RepE X.w X.K ca G ι kvs es ∧
    ∀ p ys, H p = none → RepL X.w X.K ca G ι (kvs.map (·.1)) ys → Q (.ref p) (upd H p (.lst ys))) := by
  intro pins s σ H vs us Q I r hh
  obtain ⟨ca, G, ι, h, a, kvs, es, rfl, rh, hsm, m, hr, re, q⟩ := hh
  rw [Vals.ref1 r]
  obtain ⟨o', ep, d1, d2, d3⟩ := dict_of I hr
  have hl := dok_len m re
  refine PySem.W.kdl_call (PySem.KdlSrc.rawDict (ep := ep) (es := es.toArray) hsm) (I.ok.hd hc) ⟨o', d1, d2, d3⟩ (by simpa using hl) fun h' tk acc' c' hk hS hacc => ?_
  obtain ⟨ys, r1, r2⟩ := of_each (each_key re)
  have e := items_list hacc
  have hlen : ys.length ≤ sizeLine := by rw [← r1.length, List.length_map, re.length]; exact hl
  exact ⟨.ref _, upd H s.heap.objs.size (.lst ys), I.laid (t' := tk) hk (Nat.le_refl _) ⟨hlen, acc'.toList, c', by rw [e]; exact r2, by simpa using hS⟩, rfl, q _ ys (I.hok.fresh (Nat.le_refl _)) r1⟩
def fLstK : D → Hm → Res D := fun x h => match rdD h x with
  | some kvs => .ok (.lst (kvs.map (·.1))) h
  | none => .bad
theorem o_lstK : ∀ X W, At g N sc k X W → ∃ r, CallR X (.type "list") r ∧ OkL g r (f1 fLstK) := fun X W c => ⟨_, call_lstK c.calm, okL1 fun W σ G ι H h d v Q rh r p => by
  unfold fLstK at p
  cases e1 : rdD h d with
  | none => simp only [e1] at p; exact p.elim
  | some kvs =>
    simp only [e1] at p
    obtain ⟨a, es, rfl, hsm, m, hr, re⟩ := rdD_ok rh r e1
    refine ⟨g.ca, G, ι, h, a, kvs, es, rfl, by rw [c.eK, c.ew]; exact rh, hsm, m, hr, by rw [c.eK, c.ew]; exact re, fun p0 ys hp rl => ?_⟩
    rw [c.eK, c.ew] at rl
    obtain ⟨gr, rh'⟩ := rh.fz (o := .lst ys) hp
    exact p _ _ _ _ gr rh' (.lst upd_same (rl.mono gr.s gr.p))⟩
/-- list(x): of a dict its keys -/
def fLstA : FD := orL isDK (f1 fLstK) (f1 fLstOf)
theorem o_lstA : ∀ X W, At g N sc k X W → ∃ r, CallR X (.type "list") r ∧ OkL g r fLstA := o_orL o_lstK o_lstOf
end
end MP
end L2

set_option Elab.async false
set_option linter.all false
set_option maxRecDepth 100000
set_option maxHeartbeats 2000000
namespace L2
namespace MP
open PySem PySem.Spec PySem.Calls PyProof.Rows
/-! ### f(e, ..), f an instance whose class has its own __call__ -/
section
variable {g : GX} {N : List Str} {sc : SC} {k : Nat} {W : XW} {σ : St} {G : GP} {ι : List Addr} {H : Hp} {h : Hm}
theorem code_fa {j : Nat} {f : Addr} {F : FD} (fa : FA g j f F) {X : Cx} (c : At g N sc k X W) (hr : Room j X.A) {pins : List (Addr × Obj)} {s : Shared} {Q : VK} {us : List Value} {vs : List V} {as : List D} (I : Inv X pins σ H s) (r : Vals vs us)
    (ra : RepL g.w g.K g.ca G ι as vs) (rh : RH g.w g.K g.ca G ι H h) (p : PostR g W σ (RpE g) G ι (F as h) Q) :
    codeAny (model X.prog X.w) X.A (.call (.ref f) ⟨us, []⟩) (fun r s' => match r with | .ok (.ret v) => EP X pins σ Q v s' | .ok _ => False | .error e => X.xe e s') s := by
  obtain ⟨fd, ps, ds, dvs, dds, F0, ok, hb, hd, rd, hF⟩ := fa.ex
  rw [hF] at p
  split at p
  · rename_i hlen
    have r2 : Vals (vs ++ dvs) (us ++ ds) := r.append hd
    have ra2 : RepL g.w g.K g.ca G ι (as ++ dds) (vs ++ dvs) := ra.app (rd G ι)
    have hl : (us ++ ds).length = ps.length := by
      rw [← r2.length, ← ra2.length, List.length_append]; exact hlen
    have e0 := I.env0
    have kin : g.K.In s.heap := by rw [← c.eK]; exact I.kIn
    have hbs := hb s us kin hl
    have ok' : FnG X.prog X.w X.K X.mg X.base (L2.CX X.prog X.w) j f fd ps (spF g F0 ps.length) := by
      rw [c.eP, c.ew, c.eK, c.em, c.eb]; exact ok
    have hsp : spF g F0 ps.length (vs ++ dvs) H Q (fun cls d H' => wx g.ca W cls d σ H') := by
      refine ⟨by rw [← ra2.length, List.length_append]; exact hlen, G, ι, as ++ dds, h, ra2, rh, ?_⟩
      cases e : F0 (as ++ dds) h with
      | ok v h1 => rw [e] at p; exact p
      | exc x h1 => rw [e] at p; exact fun G' ι' H' gr rh' C hC => ⟨x, C, hC, rfl, rfl, p G' ι' H' gr rh'⟩
      | bad => rw [e] at p; exact p
    refine codeAny_mono (ok'.run X.A X.stack s H ⟨us, []⟩ (us ++ ds) (vs ++ dvs) Q _ hr c.gd e0 hbs r2 hsp) fun r s' hq => ?_
    cases r with
    | error e => exact c.tk e s' (XE.of_call I (fun _ _ _ z => z) hq)
    | ok fl =>
      cases fl with
      | ret u => exact I.after hq
      | next => exact False.elim hq
      | brk => exact False.elim hq
      | cont => exact False.elim hq
  · exact p.elim
/-- the classes' own __call__: by classes -/
structure CO (g : GX) (j : Nat) (tbl : Nat → Option FD) : Prop where
  ok : ∀ c C F, tbl c = some F → g.ca c = some C → ∃ f, PySem.W.findIn g.K (.ref C) "__call__" = some (some (.ref f)) ∧ PySem.W.isFn g.K (.ref f) = true ∧ PySem.W.fnIn g.K f = true ∧ FA g j f F
theorem CO.nil {j : Nat} : CO g j (TBL.f []) := ⟨fun c C F e => by cases e⟩
theorem CO.cons {j : Nat} {i : Nat} {F : FD} {l : TBL} {f : Addr} {C0 : Addr} (hC : g.ca i = some C0) (h1 : PySem.W.findIn g.K (.ref C0) "__call__" = some (some (.ref f))) (h2 : PySem.W.isFn g.K (.ref f) = true) (h3 : PySem.W.fnIn g.K f = true) (fa : FA g j f F) (t : CO g j (TBL.f l)) : CO g j (TBL.f ((i, F) :: l)) := ⟨fun c C F' e ec => by
  rcases lookup_cases e with ⟨rfl, rfl⟩ | e
  · rw [hC] at ec; cases ec; exact ⟨f, h1, h2, h3, fa⟩
  · exact t.ok c C F' e ec⟩
def mCallO (tbl : Nat → Option FD) (o : ME) (ma : MA) : ME := fun e h => (o e h).bind fun v h1 => match v with
  | .ins c fs => (match tbl c with
    | some F => (ma e h1).bind fun as h2 => F (.ins c fs :: as) h2
    | none => .bad)
  | _ => .bad
theorem FunD_fnIn {K : PySem.W.Frag} {x qual : Str} {params : Arguments} {body : List Stmt} {scope : Scope} {dvs : List V} {kv : List (Str × V)} {f : Addr} {fd : FuncData} (F : FunD K x qual params body scope dvs kv f fd) : PySem.W.fnIn K f = true := by
  obtain ⟨oc, od, dV, kV, doc, pm, an, cdv, ct, osl, rfl, lk, hcd, _, _⟩ := F.ex
  unfold PySem.W.fnIn
  rw [lk]
theorem fnIn_q {K : PySem.W.Frag} {x qual : Str} {params : Arguments} {body : List Stmt} {scope : Scope} {dvs : List V} {kv : List (Str × V)} {f : Addr} (h : ∃ fd, FunD K x qual params body scope dvs kv f fd) : PySem.W.fnIn K f = true := let ⟨_, F⟩ := h; FunD_fnIn F
theorem se_callO {j : Nat} {tbl : Nat → Option FD} {fe e : Expr} {es : List Expr} {mo : ME} {ma : MA} {pos : Pos} (co : CO g j tbl) (ho : SE g N sc k fe mo) (ha : SA g N sc k (e :: es) ma) (hj : j ≤ k := by decide) (hs : notStar e = true := by rfl) (hpl : ∀ env, (backTo pos (starEach es env)).any (·.1) = false := by intro _; rfl)
    (ht : ∀ env : Env, eval (.Call fe (e :: es) [] pos) env = (do callWith pos (← eval fe env) [] (backTo pos (starEach (e :: es) env)) (backToKw pos (keywordEach [] env))) := by intro _; rfl) : SE g N sc k (.Call fe (e :: es) [] pos) (mCallO tbl mo ma) := fun X W c => by
  refine ⟨fun pins s σ H Q I q => ?_⟩
  obtain ⟨G, ι, ev, h, rs, rh, p⟩ := q
  refine Call_ (thn ((ho X W c).run pins s σ H _ I (tE_go rs rh p fun v h1 G1 ι1 H1 x _ gr rh1 rs1 rx p1 => (⟨G1, ι1, v, h1, rh1, rs1, rx, p1⟩ : (fun (x : V) (H1 : Hp) => ∃ G1 ι1 v h1, RH g.w g.K g.ca G1 ι1 H1 h1 ∧ RS g.w g.K g.ca G1 ι1 σ ev ∧ Rep g.w g.K g.ca G1 ι1 v x ∧ PostR g W σ (RpE g) G1 ι1 (match v with
    | .ins c fs => (match tbl c with
      | some F => (ma ev h1).bind fun as h2 => F (.ins c fs :: as) h2
      | none => .bad)
    | _ => .bad) Q) x H1))) fun u s1 hh => ?_) (ht X.env)
  obtain ⟨y, H1, I1, ry, G1, ι1, v, h1, rh1, rs1, rx, p1⟩ := hh
  cases v with
  | ins cc fds =>
    cases et : tbl cc with
    | none => simp only [et] at p1; exact p1.elim
    | some F =>
      simp only [et] at p1
      have rx0 := rx
      cases rx with
      | ins hC hG rf =>
        rename_i a dx C fs
        obtain ⟨f, f1, f2, f3, fa⟩ := co.ok cc C F et hC
        obtain rfl : u = Value.ref a := ry
        refine StX.callO_with (thn ((ha X W c).run pos pins s1 σ H1 _ I1 (tA_go rs1 rh1 p1 fun vs h2 G2 ι2 H2 x _ gr2 rh2 rs2 rx2 p2 => (⟨G2, ι2, vs, h2, rh2, gr2.s _ _ hG, rx0.mono gr2.s gr2.p, rx2, p2⟩ : (fun (x : List V) (H2 : Hp) => ∃ G2 ι2 vs h2, RH g.w g.K g.ca G2 ι2 H2 h2 ∧ G2.f a = some (.ins C dx fs) ∧ Rep g.w g.K g.ca G2 ι2 (.ins cc fds) (.ref a) ∧ RepL g.w g.K g.ca G2 ι2 vs x ∧ PostR g W σ (RpE g) G2 ι2 (F (.ins cc fds :: vs) h2) Q) x H2))) fun us s2 hh => ?_) (star_no hs) (hpl _)
        obtain ⟨vs, H2, I2, r, G2, ι2, as, h2, rh2, hG2, rv, rx2, p2⟩ := hh
        obtain ⟨ox, od, J, hd⟩ := StX.insC_at I2 (.inr ⟨dx, fs, rh2.le _ _ hG2⟩)
        refine ⟨⟨C, ox, od, J, hd⟩, ?_⟩
        exact wpAny_call (PySem.W.kco_code I2.kIn J hd (by rw [c.eK]; exact f1) (by rw [c.eK]; exact f2) (by rw [c.eK]; exact f3) (code_fa (us := .ref a :: us) (vs := .ref a :: vs) fa c (c.room.mono hj) I2 (.cons rfl r) (.cons rv rx2) rh2 p2))
  | _ => exact p1.elim
end
end MP
end L2

set_option Elab.async false
set_option linter.all false
set_option maxRecDepth 100000
set_option maxHeartbeats 2000000
namespace L2
namespace MP
open PySem PySem.Spec PyProof.Rows
section
variable {g : GX} {N : List Str} {sc : SC} {k : Nat} {W : XW} {σ : St} {G : GP} {ι : List Addr} {H : Hp} {h : Hm} {ev : Ev} {w : World} {K : PySem.W.Frag} {ca : Nat → Option Addr}
/-! ### repr -/
/-- a text's characters -/
def textL (s : Str) : List Nat := s.cps.toList
theorem rep_text (s : Str) : Rep w K ca G ι (.str (textL s)) (.str s) := by
  have : Rep w K ca G ι (.str (textL s)) (.str ⟨(textL s).toArray⟩) := .str _
  unfold textL at *
  simpa using this
/-- what repr gives of data -/
def reprD (d : D) : List Nat := match D.pd d with
  | some p => textL p.shown
  | none => []
def fReprD : D → Hm → Res D := fun x h => if showOk (deref h x) = true then .ok (.str (reprD (deref h x))) h else .bad
theorem o_reprD : ∀ X W, At g N sc k X W → ∃ r, CallR X (.builtin "repr") r ∧ OkL g r (f1 fReprD) := fun X W c => ⟨_, call_reprD c.gd c.u64, okL1 fun W σ G ι H h d v Q rh rd p => by
  unfold fReprD at p
  split at p
  · rename_i hs
    obtain ⟨pp, e1, s1, s2, s3, s4⟩ := showOk_ok hs
    refine ⟨v, pp, rfl, by rw [c.eK]; exact dp_deref rh rd e1, s1, s2, s3, s4, ?_⟩
    have : reprD (deref h d) = textL pp.shown := by unfold reprD; rw [e1]
    rw [this] at p
    exact p.here rh (rep_text _)
  · exact p.elim⟩
/-- repr(x), x an instance -/
def aRepr (g : GX) (tbl : Nat → Option FD) : List V → Hp → VK → Prop := fun xs H Q => ∃ G ι h d x c F, xs = [x] ∧ RH g.w g.K g.ca G ι H h ∧ Rep g.w g.K g.ca G ι d x ∧ clsOf h d = some c ∧ tbl c = some F ∧
  PostR g (fun _ _ _ => False) [] (RpE g) G ι (nox (F [d] h)) fun v H' => ∃ s, v = .str s ∧ Q (.str s) H'
theorem call_reprI {j : Nat} {tbl : Nat → Option FD} (du : DU g j "__repr__" tbl) (hj : j + 1 ≤ k) {X : Cx} (c : At g N sc k X W) : CallR X (.builtin "repr") (aRepr g tbl) := fun pins s σ H xs us Q I r h => by
  obtain ⟨G, ι, h, d, x, cc, F, rfl, rh, rd, ec, et, p⟩ := h
  obtain ⟨a, C, dx, fs, fds, rfl, hC, hH, hf, rf⟩ := ins_of rh rd ec
  obtain ⟨f, h1, h2, fa⟩ := du.ok cc C F et hC
  rw [Vals.ref1 r]
  obtain ⟨ox, od, J⟩ := inst_at I hH
  obtain ⟨m, hF⟩ := I.fr
  have hr : Room (j + 1) X.A := c.room.mono hj
  have hu : X.A.in1.units < cLine := by
    have := hr.in1.units
    omega
  refine PySem.W.repr_K hu hF I.ok.mod.kin J (by rw [c.eK]; exact h1) (by rw [c.eK]; exact h2) (wpAny_mono (run_faA fa c (A := X.A.in1) hr.in1 c.gd I I.env0.in1 (.cons (show RelV (.ref a) (.ref a) from rfl) .nil) (.cons rd .nil) rh (PostR.nx p)) (fun v s' hv => ?_) fun _ _ e => e)
  obtain ⟨y, H', I', ry, n, ey, q⟩ := hv
  subst ey
  obtain ⟨t, rfl⟩ := ry
  exact ⟨.str n, H', I', ⟨t, rfl⟩, q⟩
def fReprI (tbl : Nat → Option FD) : D → Hm → Res D := fun x h => match (clsOf h x).bind tbl with
  | some F => (nox (F [x] h)).bind fun v h1 => match v with
    | .str s => .ok (.str s) h1
    | _ => .bad
  | none => fReprD x h
theorem o_reprI {j : Nat} {tbl : Nat → Option FD} (du : DU g j "__repr__" tbl) (hj : j + 1 ≤ k := by decide) : ∀ X W, At g N sc k X W → ∃ r, CallR X (.builtin "repr") r ∧ OkL g r (f1 (fReprI tbl)) := fun X W c => by
  obtain ⟨r, h1, h2⟩ := o_reprD (g := g) (N := N) (sc := sc) (k := k) X W c
  refine ⟨_, CallR.or' h1 (call_reprI du hj c), okL1 fun W σ G ι H h d v Q rh rd p => ?_⟩
  unfold fReprI at p
  cases e : (clsOf h d).bind tbl with
  | none => rw [e] at p; exact .inl (h2 W σ G ι H h [d] [v] Q rh (.cons rd .nil) p)
  | some F =>
    rw [e] at p
    obtain ⟨cc, e1, e2⟩ := Option.bind_eq_some_iff.mp e
    refine .inr ⟨G, ι, h, d, v, cc, F, rfl, rh, rd, e1, e2, ?_⟩
    simp only at p
    cases ef : F [d] h with
    | exc _ _ => rw [ef] at p; exact p.elim
    | bad => rw [ef] at p; exact p.elim
    | ok z h1 =>
      rw [ef] at p
      intro G' ι' H' x gr rh' rx
      cases rx with
      | str s => exact ⟨_, rfl, p G' ι' H' _ gr rh' (.str _)⟩
      | _ => exact p.elim
/-! ### f-strings -/
/-- the text of a field -/
def txtOf : D → Option (List Nat)
  | .str s => if s.length ≤ 1000 then some s else none
  | .int i => if i.natAbs.log2 < 1000 then some (textL (toString i : String)) else none
  | _ => none
def fFmt : D → Hm → Res D := fun x h => match txtOf x with
  | some s => .ok (.str s) h
  | none => .bad
theorem se_fmt {e : Expr} {m : ME} {pos : Pos} (he : SE g N sc k e m) : SE g N sc k (.FormattedValue e (-1) none pos) (m1 fFmt m) := fun X W c =>
  (pe_fmt (he X W c)).imp fun σ H Q q => by
    obtain ⟨G, ι, e, h, rs, rh, p⟩ := q
    refine tE_go rs rh p fun v h1 G1 ι1 H1 x _ gr rh1 rs1 rx p1 => ?_
    unfold fFmt txtOf at p1
    cases rx with
    | str s =>
      by_cases hs : s.length ≤ 1000
      · simp only [hs, if_true] at p1
        exact .inl ⟨_, rfl, Nat.le_of_lt (small1000 (by simpa [Str.length] using hs)), p1.here rh1 (.str _)⟩
      · simp only [hs, if_false] at p1
        exact p1.elim
    | int i =>
      by_cases hs : i.natAbs.log2 < 1000
      · simp only [hs, if_true] at p1
        exact .inr ⟨i, rfl, by omega, p1.here rh1 (rep_text _)⟩
      · simp only [hs, if_false] at p1
        exact p1.elim
    | _ => exact p1.elim
/-- the parts one behind the other -/
def jsL : List ME → List Nat → ME
  | [], acc => fun _ h => .ok (.str acc) h
  | m :: ms, acc => fun e h => (m e h).bind fun x h1 => match x with
    | .str y => if (acc ++ y).length ≤ 1000 then jsL ms (acc ++ y) e h1 else .bad
    | _ => .bad
inductive SJ (g : GX) (N : List Str) (sc : SC) (k : Nat) : List Expr → List ME → Prop where
  | nil : SJ g N sc k [] []
  | cons {e : Expr} {m : ME} {es : List Expr} {ms : List ME} (h : SE g N sc k e m) (r : SJ g N sc k es ms) : SJ g N sc k (e :: es) (m :: ms)
theorem sj_pj {X : Cx} {W : XW} (c : At g N sc k X W) : ∀ {es : List Expr} {ms : List ME}, SJ g N sc k es ms → PJ X es (ms.map (tE g W))
  | _, _, .nil => .nil
  | _, _, .cons h r => .cons (h X W c) (sj_pj c r)
theorem js_go : ∀ {ms : List ME} {acc : List Nat} {G : GP} {ι : List Addr} {H : Hp} {h : Hm} {Q : VK}, RS g.w g.K g.ca G ι σ ev → RH g.w g.K g.ca G ι H h → PostR g W σ (RpE g) G ι (jsL ms acc ev h) Q →
    tJs (ms.map (tE g W)) ⟨acc.toArray⟩ σ H fun out H1 => Q (.str out) H1
  | [], acc, G, ι, H, h, Q, rs, rh, p => p.here rh (.str acc)
  | m :: ms, acc, G, ι, H, h, Q, rs, rh, p => by
    show tE g W m σ H _
    refine tE_go rs rh p fun v h1 G1 ι1 H1 x _ gr rh1 rs1 rx p1 => ?_
    cases rx with
    | str y =>
      have p2 : PostR g W σ (RpE g) G1 ι1 (if (acc ++ y).length ≤ 1000 then jsL ms (acc ++ y) ev h1 else .bad) Q := p1
      split at p2
      · rename_i hl
        have e : (⟨acc.toArray⟩ : Str) ++ ⟨y.toArray⟩ = ⟨(acc ++ y).toArray⟩ := by
          show (⟨acc.toArray ++ y.toArray⟩ : Str) = _
          simp
        refine ⟨_, rfl, ?_, ?_⟩
        · rw [e]
          exact Nat.le_of_lt (small1000 (by simpa [Str.length] using hl))
        · rw [e]
          exact js_go rs1 rh1 p2
      · exact p2.elim
    | _ => exact p1.elim
theorem se_js {v1 v2 : Expr} {rest : List Expr} {ms : List ME} {pos : Pos} (hs : SJ g N sc k (v1 :: v2 :: rest) ms) : SE g N sc k (.JoinedStr (v1 :: v2 :: rest) pos) (jsL ms []) := fun X W c =>
  (pe_joined (sj_pj c hs)).imp fun σ H Q q => by
    obtain ⟨G, ι, e, h, rs, rh, p⟩ := q
    exact js_go rs rh p
/-! ### int(x) -/
def fInt : D → Hm → Res D := fun x h => match x with
  | .bl b => .ok (.int (if b then 1 else 0)) h
  | .int i => .ok (.int i) h
  | _ => .bad
theorem o_int : ∀ X W, At g N sc k X W → ∃ r, CallR X (.type "int") r ∧ OkL g r (f1 fInt) := fun X W c => ⟨_, call_int1, okL1 fun W σ G ι H h d v Q rh rd p => by
  unfold fInt at p
  cases rd with
  | bl b => exact .inr ⟨b, rfl, p.here rh (.int _)⟩
  | int i => exact .inl ⟨i, rfl, p.here rh (.int _)⟩
  | _ => exact p.elim⟩
end
end MP
end L2

set_option Elab.async false
set_option linter.all false
namespace L2
namespace PF
/-! ### plants, situations, beliefs in plain Lean -/
structure Pl where
  mv : List (List (List Nat))
  bad : List Nat
  goal : List Nat
abbrev Sit := Nat × List Nat
def insU (x : Nat) : List Nat → List Nat
  | [] => [x]
  | y :: ys => if x < y then x :: y :: ys else if x = y then y :: ys else y :: insU x ys
def sortU : List Nat → List Nat
  | [] => []
  | x :: xs => insU x (sortU xs)
def ans (p : Pl) (x o : Nat) : List Nat := (p.mv.getD x []).getD o []
def Pl.n (p : Pl) : Nat := p.mv.length
def Pl.k (p : Pl) : Nat := (p.mv.getD 0 []).length
def led (p : Pl) (ps : List Nat) (o : Nat) : List Nat := sortU (ps.flatMap fun x => ans p x o)
def after (p : Pl) (ps row : List Nat) : List Nat := row.foldl (led p) ps
def stands (p : Pl) (s : Sit) : List Nat := after p [s.1] s.2
def clear (p : Pl) (ps : List Nat) : Bool := ps.all fun x => !p.bad.contains x
def dueIn (a : Nat) (p : Pl) (s : Sit) : List Nat × List Nat :=
  if s.2.length < a + 1 then ([], s.2) else (after p [s.1] (s.2.take (s.2.length - a)), s.2.drop (s.2.length - a))
/-- lists of numbers in the order of tuples -/
def leL : List Nat → List Nat → Bool
  | [], _ => true
  | _ :: _, [] => false
  | x :: xs, y :: ys => decide (x < y) || (x == y && leL xs ys)
def leS (s t : Sit) : Bool := decide (s.1 < t.1) || (s.1 == t.1 && leL s.2 t.2)
def insS (a : Sit) : List Sit → List Sit
  | [] => [a]
  | y :: ys => if leS a y = true then a :: y :: ys else y :: insS a ys
def sortS : List Sit → List Sit
  | [] => []
  | x :: xs => insS x (sortS xs)
def nextIn (a b : Nat) (p : Pl) (s : Sit) (o : Nat) : List Sit :=
  if (dueIn a p (s.1, s.2 ++ [o])).1 = [] then [(s.1, s.2 ++ [o])]
  else sortS ((dueIn a p (s.1, s.2 ++ [o])).1.map (fun y => (y, (dueIn a p (s.1, s.2 ++ [o])).2)) ++ if (s.2 ++ [o]).length ≤ a + b then [(s.1, s.2 ++ [o])] else [])
section
variable {S : Type} [BEq S]
def hasK {β : Type} (W : List (S × β)) (s : S) : Bool := (W.lookup s).isSome
/-- the work list: `one` is the last of those that wait -/
def waysP {β : Type} (nx : S → β) (out : β → List S) (good : S → Bool) : Nat → List (S × β) → List S → Option (List (S × β))
  | 0, _, _ => none
  | n + 1, found, waiting => match waiting.getLast? with
    | none => some found
    | some one => if (!hasK found one && good one) = true then waysP nx out good n (found ++ [(one, nx one)]) (waiting.dropLast ++ out (nx one)) else waysP nx out good n found waiting.dropLast
/-- round by round -/
def ranksP (keys : List S) (dft : List (S × Nat) → S → Bool) : Nat → List (S × Nat) → Nat → List S → Option (List (S × Nat))
  | 0, _, _, _ => none
  | n + 1, R, num, fresh => if fresh.isEmpty = true then some R
    else ranksP keys dft n (R ++ fresh.map fun s => (s, num)) (num + 1) (keys.filter fun s => !hasK (R ++ fresh.map fun s => (s, num)) s && dft (R ++ fresh.map fun s => (s, num)) s)
end
def outs (k a b : Nat) (p : Pl) (s : Sit) : List (List Sit) := (List.range k).map fun o => nextIn a b p s o
def waysK (p : Pl) (a b : Nat) (s : Sit) : Option (List (Sit × List (List Sit))) := waysP (outs p.k a b p) List.flatten (fun _ => true) 100000 [] [s]
def defeated (R : List (Sit × Nat)) (ways : List (List Sit)) : Bool := ways.all fun later => later.any fun t => hasK R t
def ranksK (p : Pl) (W : List (Sit × List (List Sit))) : Option (List (Sit × Nat)) :=
  ranksP (W.map (·.1)) (fun R s => defeated R ((W.lookup s).getD [])) 100000 [] 0 ((W.map (·.1)).filter fun s => !clear p (stands p s))
/-- what is asked of a plant -/
structure Pl.Ok (p : Pl) : Prop where
  n1 : 1 ≤ p.mv.length
  n6 : p.mv.length ≤ 6
  k1 : 1 ≤ p.k
  k3 : p.k ≤ 3
  rows : ∀ r ∈ p.mv, r.length = p.k
  asc : ∀ r ∈ p.mv, ∀ a ∈ r, a ≠ [] ∧ a.Pairwise (· < ·) ∧ ∀ x ∈ a, x < p.mv.length
  bads : p.bad.Pairwise (· < ·) ∧ ∀ x ∈ p.bad, x < p.mv.length
  goals : p.goal.Pairwise (· < ·) ∧ ∀ x ∈ p.goal, x < p.mv.length
  dis : ∀ x ∈ p.bad, x ∉ p.goal
/-! ### what the sorted ones hold -/
theorem mem_insU {x y : Nat} : ∀ {l : List Nat}, y ∈ insU x l ↔ y = x ∨ y ∈ l
  | [] => by simp [insU]
  | z :: zs => by
    unfold insU
    split
    · simp
    · split
      · rename_i h; subst h; simp
      · simp [mem_insU (l := zs)]
        constructor
        · rintro (h | h | h)
          · exact .inr (.inl h)
          · exact .inl h
          · exact .inr (.inr h)
        · rintro (h | h | h)
          · exact .inr (.inl h)
          · exact .inl h
          · exact .inr (.inr h)
theorem mem_sortU {y : Nat} : ∀ {l : List Nat}, y ∈ sortU l ↔ y ∈ l
  | [] => by simp [sortU]
  | x :: xs => by simp [sortU, mem_insU, mem_sortU (l := xs)]
theorem asc_insU {x : Nat} : ∀ {l : List Nat}, l.Pairwise (· < ·) → (insU x l).Pairwise (· < ·)
  | [], _ => by simp [insU]
  | z :: zs, h => by
    have h' := List.pairwise_cons.mp h
    unfold insU
    split
    · rename_i hx
      refine List.pairwise_cons.mpr ⟨?_, h⟩
      intro y hy
      rcases List.mem_cons.mp hy with rfl | hy
      · exact hx
      · exact Nat.lt_trans hx (h'.1 y hy)
    · split
      · exact h
      · rename_i h1 h2
        refine List.pairwise_cons.mpr ⟨?_, asc_insU h'.2⟩
        intro y hy
        rcases mem_insU.mp hy with rfl | hy
        · omega
        · exact h'.1 y hy
theorem asc_sortU : ∀ {l : List Nat}, (sortU l).Pairwise (· < ·)
  | [] => by simp [sortU]
  | x :: xs => asc_insU asc_sortU
theorem asc_ext : ∀ {l m : List Nat}, l.Pairwise (· < ·) → m.Pairwise (· < ·) → (∀ x, x ∈ l ↔ x ∈ m) → l = m
  | [], [], _, _, _ => rfl
  | [], y :: ys, _, _, h => by have := (h y).mpr (by simp); simp at this
  | x :: xs, [], _, _, h => by have := (h x).mp (by simp); simp at this
  | x :: xs, y :: ys, hl, hm, h => by
    have hl' := List.pairwise_cons.mp hl
    have hm' := List.pairwise_cons.mp hm
    have hxy : x = y := by
      rcases List.mem_cons.mp ((h x).mp (by simp)) with e | e
      · exact e
      · rcases List.mem_cons.mp ((h y).mpr (by simp)) with e' | e'
        · exact e'.symm
        · have := hm'.1 x e
          have := hl'.1 y e'
          omega
    subst hxy
    congr 1
    refine asc_ext hl'.2 hm'.2 fun z => ?_
    constructor
    · intro hz
      rcases List.mem_cons.mp ((h z).mp (by simp [hz])) with e | e
      · subst e; exact absurd (hl'.1 z hz) (by omega)
      · exact e
    · intro hz
      rcases List.mem_cons.mp ((h z).mpr (by simp [hz])) with e | e
      · subst e; exact absurd (hm'.1 z hz) (by omega)
      · exact e
theorem sortU_id {l : List Nat} (h : l.Pairwise (· < ·)) : sortU l = l := asc_ext asc_sortU h fun _ => mem_sortU
/-- ascending numbers below n are at most n -/
theorem asc_len : ∀ {l : List Nat} {n : Nat}, l.Pairwise (· < ·) → (∀ x ∈ l, x < n) → l.length ≤ n := by
  intro l n h hb
  have key : ∀ {l : List Nat} {a : Nat}, l.Pairwise (· < ·) → (∀ x ∈ l, a ≤ x ∧ x < n) → l.length ≤ n - a := by
    intro l
    induction l with
    | nil => intros; simp
    | cons x xs ih =>
      intro a h hb
      have h' := List.pairwise_cons.mp h
      have h1 := hb x (by simp)
      have := ih (a := x + 1) h'.2 fun y hy => ⟨h'.1 y hy, (hb y (by simp [hy])).2⟩
      simp
      omega
  simpa using key (a := 0) h fun x hx => ⟨Nat.zero_le _, hb x hx⟩
theorem mem_insS {x y : Sit} : ∀ {l : List Sit}, y ∈ insS x l ↔ y = x ∨ y ∈ l
  | [] => by simp [insS]
  | z :: zs => by
    unfold insS
    split
    · simp
    · simp [mem_insS (l := zs)]
      constructor
      · rintro (h | h | h)
        · exact .inr (.inl h)
        · exact .inl h
        · exact .inr (.inr h)
      · rintro (h | h | h)
        · exact .inr (.inl h)
        · exact .inl h
        · exact .inr (.inr h)
theorem mem_sortS {y : Sit} : ∀ {l : List Sit}, y ∈ sortS l ↔ y ∈ l
  | [] => by simp [sortS]
  | x :: xs => by simp [sortS, mem_insS, mem_sortS (l := xs)]
theorem len_insS {x : Sit} : ∀ {l : List Sit}, (insS x l).length = l.length + 1
  | [] => by simp [insS]
  | z :: zs => by
    unfold insS
    split
    · simp
    · simp [len_insS (l := zs)]
theorem len_sortS : ∀ {l : List Sit}, (sortS l).length = l.length
  | [] => by simp [sortS]
  | x :: xs => by simp [sortS, len_insS, len_sortS (l := xs)]
theorem mem_led {p : Pl} {ps : List Nat} {o y : Nat} : y ∈ led p ps o ↔ ∃ x ∈ ps, y ∈ ans p x o := by
  unfold led
  rw [mem_sortU, List.mem_flatMap]
theorem asc_led {p : Pl} {ps : List Nat} {o : Nat} : (led p ps o).Pairwise (· < ·) := asc_sortU
theorem after_nil {p : Pl} {ps : List Nat} : after p ps [] = ps := rfl
theorem after_cons {p : Pl} {ps : List Nat} {o : Nat} {row : List Nat} : after p ps (o :: row) = after p (led p ps o) row := rfl
theorem after_app {p : Pl} {ps r1 r2 : List Nat} : after p ps (r1 ++ r2) = after p (after p ps r1) r2 := by
  unfold after
  rw [List.foldl_append]
section
variable {p : Pl} (ok : p.Ok)
include ok
theorem ans_ok {x o : Nat} (hx : x < p.n) (ho : o < p.k) : ans p x o ≠ [] ∧ (ans p x o).Pairwise (· < ·) ∧ ∀ y ∈ ans p x o, y < p.n := by
  unfold ans
  have hx' : x < p.mv.length := hx
  have e1 : p.mv.getD x [] = p.mv[x] := by simp [List.getD, hx']
  have hr := ok.rows _ (List.getElem_mem hx')
  have ho' : o < (p.mv[x]).length := by rw [hr]; exact ho
  have e2 : (p.mv[x]).getD o [] = (p.mv[x])[o] := by simp [List.getD, ho']
  rw [e1, e2]
  exact ok.asc _ (List.getElem_mem hx') _ (List.getElem_mem ho')
theorem led_lt {ps : List Nat} {o : Nat} (hp : ∀ x ∈ ps, x < p.n) (ho : o < p.k) : ∀ y ∈ led p ps o, y < p.n := by
  intro y hy
  obtain ⟨x, hx, h⟩ := mem_led.mp hy
  exact (ans_ok ok (hp x hx) ho).2.2 y h
theorem led_ne {ps : List Nat} {o : Nat} (hp : ∀ x ∈ ps, x < p.n) (ho : o < p.k) (hn : ps ≠ []) : led p ps o ≠ [] := by
  obtain ⟨x, hx⟩ := List.exists_mem_of_ne_nil ps hn
  obtain ⟨y, hy⟩ := List.exists_mem_of_ne_nil _ (ans_ok ok (hp x hx) ho).1
  exact List.ne_nil_of_mem (mem_led.mpr ⟨x, hx, hy⟩)
theorem after_lt : ∀ {row ps : List Nat}, (∀ x ∈ ps, x < p.n) → (∀ o ∈ row, o < p.k) → ∀ y ∈ after p ps row, y < p.n
  | [], _, hp, _ => hp
  | o :: row, ps, hp, ho => after_lt (row := row) (led_lt ok hp (ho o (by simp))) fun x hx => ho x (by simp [hx])
theorem after_ne : ∀ {row ps : List Nat}, (∀ x ∈ ps, x < p.n) → (∀ o ∈ row, o < p.k) → ps ≠ [] → after p ps row ≠ []
  | [], _, _, _, hn => hn
  | o :: row, ps, hp, ho, hn => after_ne (row := row) (led_lt ok hp (ho o (by simp))) (fun x hx => ho x (by simp [hx])) (led_ne ok hp (ho o (by simp)) hn)
end
theorem asc_after {p : Pl} : ∀ {row ps : List Nat}, ps.Pairwise (· < ·) → (after p ps row).Pairwise (· < ·)
  | [], _, h => h
  | o :: row, _, _ => asc_after (row := row) asc_led
end PF
end L2

set_option Elab.async false
set_option linter.all false
namespace L2
namespace PF
section
variable {S : Type} [BEq S] [LawfulBEq S] {β : Type}
theorem lookup_some {W : List (S × β)} {s : S} {v : β} (h : W.lookup s = some v) : (s, v) ∈ W := by
  induction W with
  | nil => simp at h
  | cons x W ih =>
    obtain ⟨k, u⟩ := x
    rw [List.lookup_cons] at h
    by_cases e : s = k
    · subst e; simp at h; subst h; simp
    · have : (s == k) = false := by simpa using e
      rw [this] at h
      exact List.mem_cons_of_mem _ (ih h)
theorem hasK_iff {W : List (S × β)} {s : S} : hasK W s = true ↔ s ∈ W.map (·.1) := by
  unfold hasK
  induction W with
  | nil => simp
  | cons x W ih =>
    obtain ⟨k, u⟩ := x
    rw [List.lookup_cons]
    by_cases e : s = k
    · subst e; simp
    · have : (s == k) = false := by simpa using e
      rw [this]
      simp only [List.map_cons, List.mem_cons]
      rw [ih]
      constructor
      · exact .inr
      · rintro (h | h)
        · exact absurd h e
        · exact h
theorem hasK_false {W : List (S × β)} {s : S} : hasK W s = false ↔ s ∉ W.map (·.1) := by
  rw [← hasK_iff]; simp
theorem lookup_mem {W : List (S × β)} (hn : (W.map (·.1)).Nodup) {s : S} {v : β} (h : (s, v) ∈ W) : W.lookup s = some v := by
  induction W with
  | nil => simp at h
  | cons x W ih =>
    obtain ⟨k, u⟩ := x
    rw [List.map_cons, List.nodup_cons] at hn
    rw [List.lookup_cons]
    rcases List.mem_cons.mp h with e | e
    · cases e; simp
    · have : s ≠ k := by
        rintro rfl
        exact hn.1 (List.mem_map.mpr ⟨_, e, rfl⟩)
      have : (s == k) = false := by simpa using this
      rw [this]
      exact ih hn.2 e
theorem hasK_app {W W' : List (S × β)} {s : S} : hasK (W ++ W') s = (hasK W s || hasK W' s) := by
  rw [Bool.eq_iff_iff, Bool.or_eq_true, hasK_iff, hasK_iff, hasK_iff]
  simp
theorem lookup_app {W W' : List (S × β)} {s : S} : (W ++ W').lookup s = match W.lookup s with | some v => some v | none => W'.lookup s := by
  induction W with
  | nil => rfl
  | cons x W ih =>
    obtain ⟨k, u⟩ := x
    rw [List.cons_append, List.lookup_cons, List.lookup_cons]
    split
    · rfl
    · exact ih
theorem nodup_len {l U : List S} (hn : l.Nodup) (h : ∀ x ∈ l, x ∈ U) : l.length ≤ U.length := by
  induction l generalizing U with
  | nil => simp
  | cons x l ih =>
    rw [List.nodup_cons] at hn
    have hx := h x (by simp)
    have := ih (U := U.erase x) hn.2 fun y hy => by
      have : y ≠ x := by rintro rfl; exact hn.1 hy
      exact (List.mem_erase_of_ne this).mpr (h y (by simp [hy]))
    rw [List.length_erase_of_mem hx] at this
    have hp : 0 < U.length := List.length_pos_of_mem hx
    simp
    omega
/-- what the work list finds -/
structure Closed (nx : S → β) (out : β → List S) (good : S → Bool) (P : S → Prop) (s0 : S) (W : List (S × β)) : Prop where
  nd : (W.map (·.1)).Nodup
  val : ∀ s v, (s, v) ∈ W → v = nx s ∧ good s = true ∧ P s
  cl : ∀ s v, (s, v) ∈ W → ∀ t ∈ out (nx s), good t = true → hasK W t = true
  s0 : good s0 = true → hasK W s0 = true
theorem waysP_ok {nx : S → β} {out : β → List S} {good : S → Bool} {P : S → Prop} {s0 : S} {U : List S} {c : Nat} (hU : ∀ s, P s → s ∈ U) (hP : ∀ s, P s → good s = true → ∀ t ∈ out (nx s), P t) (hc : ∀ s, P s → (out (nx s)).length ≤ c) :
    ∀ (n : Nat) (found : List (S × β)) (waiting : List S), (found.map (·.1)).Nodup → (∀ s v, (s, v) ∈ found → v = nx s ∧ good s = true ∧ P s) → (∀ t ∈ waiting, P t) →
      (∀ s v, (s, v) ∈ found → ∀ t ∈ out (nx s), good t = true → hasK found t = true ∨ t ∈ waiting) → (good s0 = true → hasK found s0 = true ∨ s0 ∈ waiting) → waiting.length + c * (U.length - found.length) < n →
      ∃ W, waysP nx out good n found waiting = some W ∧ Closed nx out good P s0 W
  | 0, _, _, _, _, _, _, _, h => by omega
  | n + 1, found, waiting, h1, h2, h3, h4, h5, h6 => by
    unfold waysP
    cases hw : waiting.getLast? with
    | none =>
      have e : waiting = [] := List.getLast?_eq_none_iff.mp hw
      subst e
      exact ⟨found, rfl, h1, h2, fun s v hs t ht hg => (h4 s v hs t ht hg).resolve_right (by simp), fun hg => (h5 hg).resolve_right (by simp)⟩
    | some one =>
      have e : waiting = waiting.dropLast ++ [one] := by
        have hne : waiting ≠ [] := by rintro rfl; simp at hw
        have := List.dropLast_concat_getLast hne
        rw [List.getLast?_eq_some_getLast hne] at hw
        cases hw
        exact this.symm
      have hone : P one := h3 one (by rw [e]; simp)
      have hmem : ∀ t, t ∈ waiting ↔ t ∈ waiting.dropLast ∨ t = one := by
        intro t
        conv => lhs; rw [e]
        simp
      have hlen : waiting.length = waiting.dropLast.length + 1 := by
        conv => lhs; rw [e]
        simp
      simp only []
      by_cases hc1 : (!hasK found one && good one) = true
      · rw [if_pos hc1]
        rw [Bool.and_eq_true, Bool.not_eq_true'] at hc1
        have hnot := hasK_false.mp hc1.1
        have hlf : found.length + 1 ≤ U.length := by
          have := nodup_len (l := one :: found.map (·.1)) (U := U) (List.nodup_cons.mpr ⟨hnot, h1⟩) (by
            intro x hx
            rcases List.mem_cons.mp hx with rfl | hx
            · exact hU _ hone
            · obtain ⟨⟨k, v⟩, hk, rfl⟩ := List.mem_map.mp hx
              exact hU _ (h2 k v hk).2.2)
          simpa using this
        have keys : ∀ t, hasK (found ++ [(one, nx one)]) t = true ↔ hasK found t = true ∨ t = one := by
          intro t
          rw [hasK_app, Bool.or_eq_true, hasK_iff (W := [(one, nx one)])]
          simp
        refine waysP_ok hU hP hc n _ _ ?_ ?_ ?_ ?_ ?_ ?_
        · rw [List.map_append, List.nodup_append]
          refine ⟨h1, by simp, ?_⟩
          intro x hx y hy
          simp at hy
          subst hy
          rintro rfl
          exact hnot hx
        · intro s v hs
          rcases List.mem_append.mp hs with hs | hs
          · exact h2 s v hs
          · simp at hs
            obtain ⟨rfl, rfl⟩ := hs
            exact ⟨rfl, hc1.2, hone⟩
        · intro t ht
          rcases List.mem_append.mp ht with ht | ht
          · exact h3 t ((hmem t).mpr (.inl ht))
          · exact hP one hone hc1.2 t ht
        · intro s v hs t ht hg
          rcases List.mem_append.mp hs with hs | hs
          · rcases h4 s v hs t ht hg with q | q
            · exact .inl ((keys t).mpr (.inl q))
            · rcases (hmem t).mp q with q | q
              · exact .inr (List.mem_append_left _ q)
              · exact .inl ((keys t).mpr (.inr q))
          · simp at hs
            obtain ⟨rfl, rfl⟩ := hs
            exact .inr (List.mem_append_right _ ht)
        · intro hg
          rcases h5 hg with q | q
          · exact .inl ((keys _).mpr (.inl q))
          · rcases (hmem _).mp q with q | q
            · exact .inr (List.mem_append_left _ q)
            · exact .inl ((keys _).mpr (.inr q))
        · have h7 := hc one hone
          have h8 : U.length - found.length = (U.length - (found ++ [(one, nx one)]).length) + 1 := by simp; omega
          rw [h8, Nat.mul_add, Nat.mul_one] at h6
          rw [List.length_append]
          omega
      · rw [if_neg hc1]
        have hc2 : hasK found one = true ∨ good one = false := by
          cases h7 : hasK found one with
          | true => exact .inl rfl
          | false =>
            cases h8 : good one with
            | false => exact .inr rfl
            | true => rw [h7, h8] at hc1; exact absurd rfl hc1
        refine waysP_ok hU hP hc n _ _ h1 h2 (fun t ht => h3 t ((hmem t).mpr (.inl ht))) ?_ ?_ (by omega)
        · intro s v hs t ht hg
          rcases h4 s v hs t ht hg with q | q
          · exact .inl q
          · rcases (hmem t).mp q with q | q
            · exact .inr q
            · subst q
              rcases hc2 with q | q
              · exact .inl q
              · rw [q] at hg; cases hg
        · intro hg
          rcases h5 hg with q | q
          · exact .inl q
          · rcases (hmem _).mp q with q | q
            · exact .inr q
            · subst q
              rcases hc2 with q | q
              · exact .inl q
              · rw [q] at hg; cases hg
/-- rounds: what is in by the n-th -/
def lv (keys : S → Bool) (ini : S → Bool) (D : (S → Bool) → S → Bool) : Nat → S → Bool
  | 0, s => ini s
  | n + 1, s => lv keys ini D n s || D (fun t => keys t && lv keys ini D n t) s
theorem lv_mono {keys ini : S → Bool} {D : (S → Bool) → S → Bool} {s : S} : ∀ {n m : Nat}, n ≤ m → lv keys ini D n s = true → lv keys ini D m s = true := by
  intro n m h
  induction h with
  | refl => exact id
  | step _ ih => intro q; unfold lv; rw [ih q]; rfl
/-- a rank is the first round -/
def IsRk (L : Nat → S → Bool) (s : S) : Option Nat → Prop
  | some n => L n s = true ∧ ∀ m, m < n → L m s = false
  | none => ∀ n, L n s = false
/-- what is in ahead of the n-th round -/
def bf (keys ini : S → Bool) (D : (S → Bool) → S → Bool) : Nat → S → Bool
  | 0, _ => false
  | n + 1, s => lv keys ini D n s
theorem bf_iff {keys ini : S → Bool} {D : (S → Bool) → S → Bool} {s : S} {n : Nat} : bf keys ini D n s = false ↔ ∀ j, j < n → lv keys ini D j s = false := by
  cases n with
  | zero => simp [bf]
  | succ n =>
    constructor
    · intro h j hj
      cases q : lv keys ini D j s with
      | false => rfl
      | true =>
        have := lv_mono (n := j) (m := n) (by omega) q
        rw [show bf keys ini D (n + 1) s = lv keys ini D n s from rfl, this] at h
        cases h
    · intro h
      exact h n (by omega)
theorem bf_step {keys ini : S → Bool} {D : (S → Bool) → S → Bool} (h0 : ∀ s, keys s = true → D (fun _ => false) s = true → ini s = true) {n : Nat} {s : S} (hs : keys s = true) (h : D (fun t => keys t && bf keys ini D n t) s = true) : bf keys ini D (n + 1) s = true := by
  cases n with
  | zero =>
    have e : (fun t => keys t && bf keys ini D 0 t) = fun _ => false := by funext t; simp [bf]
    rw [e] at h
    exact h0 s hs h
  | succ n =>
    show lv keys ini D (n + 1) s = true
    unfold lv
    rw [show D (fun t => keys t && lv keys ini D n t) s = true from h]
    simp
theorem bf_stop {keys ini : S → Bool} {D : (S → Bool) → S → Bool} (h0 : ∀ s, keys s = true → D (fun _ => false) s = true → ini s = true) {n : Nat} (h : ∀ s, keys s = true → bf keys ini D (n + 1) s = true → bf keys ini D n s = true) : ∀ m s, keys s = true → lv keys ini D m s = true → bf keys ini D n s = true := by
  have key : ∀ m, n ≤ m → ∀ s, keys s = true → lv keys ini D m s = true → bf keys ini D n s = true := by
    intro m hm
    induction hm with
    | refl => exact fun s hs hl => h s hs hl
    | @step m hm ih =>
      intro s hs hl
      unfold lv at hl
      rw [Bool.or_eq_true] at hl
      rcases hl with hl | hl
      · exact ih s hs hl
      · have e : (fun t => keys t && lv keys ini D m t) = fun t => keys t && bf keys ini D n t := by
          funext t
          cases hk : keys t with
          | false => rfl
          | true =>
            simp only [Bool.true_and]
            rw [Bool.eq_iff_iff]
            refine ⟨ih t hk, fun q => ?_⟩
            cases n with
            | zero => cases q
            | succ n => exact lv_mono (by have : n + 1 ≤ m := hm; omega) q
        rw [e] at hl
        exact h s hs (bf_step h0 hs hl)
  intro m s hs hl
  by_cases hm : m < n
  · cases n with
    | zero => omega
    | succ n => exact lv_mono (by omega) hl
  · exact key m (by omega) s hs hl
theorem ranksP_ok {keys : List S} {ini : S → Bool} {dft : List (S × Nat) → S → Bool} {D : (S → Bool) → S → Bool} (hk : keys.Nodup) (hd : ∀ R s, s ∈ keys → dft R s = D (hasK R) s) (h0 : ∀ s, keys.contains s = true → D (fun _ => false) s = true → ini s = true) :
    ∀ (n : Nat) (R : List (S × Nat)) (num : Nat) (fresh : List S), (R.map (·.1)).Nodup → fresh.Nodup →
      (∀ s, hasK R s = (keys.contains s && bf keys.contains ini D num s)) → (∀ s m, R.lookup s = some m → IsRk (lv keys.contains ini D) s (some m)) →
      (∀ s, s ∈ fresh ↔ s ∈ keys ∧ lv keys.contains ini D num s = true ∧ bf keys.contains ini D num s = false) → keys.length - R.length < n →
      ∃ R', ranksP keys dft n R num fresh = some R' ∧ (R'.map (·.1)).Nodup ∧ (∀ s, hasK R' s = true → s ∈ keys) ∧ ∀ s, s ∈ keys → IsRk (lv keys.contains ini D) s (R'.lookup s)
  | 0, _, _, _, _, _, _, _, _, h => by omega
  | n + 1, R, num, fresh, h1, h2, h3, h4, h5, h6 => by
    unfold ranksP
    by_cases hf : fresh.isEmpty = true
    · rw [if_pos hf]
      have hf : fresh = [] := by simpa using hf
      refine ⟨R, rfl, h1, fun s hs => ?_, fun s hs => ?_⟩
      · rw [h3, Bool.and_eq_true] at hs
        simpa using hs.1
      · cases hv : R.lookup s with
        | some m => exact h4 s m hv
        | none =>
          intro m
          cases hl : lv keys.contains ini D m s with
          | false => rfl
          | true =>
            have hks : keys.contains s = true := by simpa using hs
            have := bf_stop h0 (n := num) (fun t ht hb => by
              cases hq : bf keys.contains ini D num t with
              | true => rfl
              | false =>
                have := (h5 t).mpr ⟨by simpa using ht, hb, hq⟩
                rw [hf] at this
                simp at this) m s hks hl
            have h7 : hasK R s = true := by rw [h3, hks, this]; rfl
            unfold hasK at h7
            rw [hv] at h7
            cases h7
    · rw [if_neg hf]
      have hnew : ∀ s, hasK (fresh.map fun s => (s, num)) s = fresh.contains s := by
        intro s
        rw [Bool.eq_iff_iff, hasK_iff]
        simp
      have hR' : ∀ s, hasK (R ++ fresh.map fun s => (s, num)) s = (keys.contains s && bf keys.contains ini D (num + 1) s) := by
        intro s
        rw [hasK_app, hnew, h3]
        show _ = (keys.contains s && lv keys.contains ini D num s)
        rw [Bool.eq_iff_iff, Bool.or_eq_true, Bool.and_eq_true, Bool.and_eq_true]
        have hc : fresh.contains s = true ↔ s ∈ fresh := by simp
        rw [hc, h5]
        have hc2 : keys.contains s = true ↔ s ∈ keys := by simp
        rw [hc2]
        constructor
        · rintro (⟨a, b⟩ | ⟨a, b, _⟩)
          · refine ⟨a, ?_⟩
            cases num with
            | zero => cases b
            | succ k => exact lv_mono (by omega) b
          · exact ⟨a, b⟩
        · rintro ⟨a, b⟩
          cases q : bf keys.contains ini D num s with
          | true => exact .inl ⟨a, rfl⟩
          | false => exact .inr ⟨a, b, rfl⟩
      have hset : hasK (R ++ fresh.map fun s => (s, num)) = fun t => keys.contains t && bf keys.contains ini D (num + 1) t := funext hR'
      refine ranksP_ok hk hd h0 n _ _ _ ?_ ?_ hR' ?_ ?_ ?_
      · rw [List.map_append, List.nodup_append]
        refine ⟨h1, by simpa [Function.comp_def] using h2, ?_⟩
        intro x hx y hy
        simp at hy
        rintro rfl
        have a := (h5 x).mp hy
        have b := hasK_iff.mpr hx
        rw [h3, a.2.2] at b
        simp at b
      · exact hk.filter _
      · intro s m hm
        rw [lookup_app] at hm
        cases hv : R.lookup s with
        | some v =>
          rw [hv] at hm
          cases hm
          exact h4 s _ hv
        | none =>
          rw [hv] at hm
          have := lookup_some hm
          simp at this
          obtain ⟨a, ha, rfl, rfl⟩ := this
          have a := (h5 _).mp ha
          exact ⟨a.2.1, bf_iff.mp a.2.2⟩
      · intro s
        rw [List.mem_filter, Bool.and_eq_true, Bool.not_eq_true', hR']
        constructor
        · rintro ⟨a, b, c⟩
          have hks : keys.contains s = true := by simpa using a
          rw [hks, Bool.true_and] at b
          refine ⟨a, ?_, b⟩
          rw [hd _ _ a, hset] at c
          exact bf_step h0 hks c
        · rintro ⟨a, b, c⟩
          have hks : keys.contains s = true := by simpa using a
          refine ⟨a, by rw [c]; simp, ?_⟩
          rw [hd _ _ a, hset]
          unfold lv at b
          rw [Bool.or_eq_true] at b
          rcases b with b | b
          · have c : lv keys.contains ini D num s = false := c
            rw [c] at b; cases b
          · exact b
      · have : 0 < fresh.length := by
          cases fresh with
          | nil => exact absurd rfl hf
          | cons _ _ => simp
        have hle : R.length + fresh.length ≤ keys.length := by
          have := nodup_len (l := R.map (·.1) ++ fresh) (U := keys) (by
            rw [List.nodup_append]
            refine ⟨h1, h2, ?_⟩
            intro x hx y hy
            rintro rfl
            have a := (h5 x).mp hy
            have b := hasK_iff.mpr hx
            rw [h3, a.2.2] at b
            simp at b) (by
            intro x hx
            rcases List.mem_append.mp hx with hx | hx
            · have b := hasK_iff.mpr hx
              rw [h3, Bool.and_eq_true] at b
              simpa using b.1
            · exact ((h5 x).mp hx).1)
          simpa using this
        simp
        omega
/-- from the beginning -/
theorem ranksP_all {keys : List S} {ini : S → Bool} {dft : List (S × Nat) → S → Bool} {D : (S → Bool) → S → Bool} (hk : keys.Nodup) (hd : ∀ R s, s ∈ keys → dft R s = D (hasK R) s) (h0 : ∀ s, keys.contains s = true → D (fun _ => false) s = true → ini s = true) {n : Nat} (hn : keys.length < n) :
    ∃ R', ranksP keys dft n [] 0 (keys.filter ini) = some R' ∧ (R'.map (·.1)).Nodup ∧ (∀ s, hasK R' s = true → s ∈ keys) ∧ ∀ s, s ∈ keys → IsRk (lv keys.contains ini D) s (R'.lookup s) := by
  refine ranksP_ok hk hd h0 n [] 0 (keys.filter ini) (by simp) (hk.filter _) (fun s => by simp [hasK, bf]) (fun s m h => by simp at h) (fun s => ?_) (by simpa using hn)
  rw [List.mem_filter]
  simp [bf, lv]
end
end PF
end L2

set_option Elab.async false
set_option linter.all false
namespace L2
namespace PF
/-- a situation of the news -/
structure SOk (p : Pl) (m : Nat) (s : Sit) : Prop where
  at_ : s.1 < p.n
  len : s.2.length ≤ m
  row : ∀ o ∈ s.2, o < p.k
def rowsU (k : Nat) : Nat → List (List Nat)
  | 0 => [[]]
  | m + 1 => [] :: (rowsU k m).flatMap fun r => (List.range k).map fun o => o :: r
theorem mem_rowsU {k : Nat} : ∀ {m : Nat} {r : List Nat}, r.length ≤ m → (∀ o ∈ r, o < k) → r ∈ rowsU k m
  | 0, r, h, _ => by
    have : r = [] := List.length_eq_zero_iff.mp (by omega)
    subst this; simp [rowsU]
  | m + 1, [], _, _ => by simp [rowsU]
  | m + 1, o :: r, h, ho => by
    have := mem_rowsU (k := k) (m := m) (r := r) (by simpa using h) fun x hx => ho x (by simp [hx])
    unfold rowsU
    refine List.mem_cons_of_mem _ (List.mem_flatMap.mpr ⟨r, this, List.mem_map.mpr ⟨o, ?_, rfl⟩⟩)
    simpa using ho o (by simp)
theorem len_rowsU {k : Nat} (hk : k ≤ 3) : ∀ {m : Nat}, 2 * (rowsU k m).length + 1 ≤ 3 ^ (m + 1)
  | 0 => by simp [rowsU]
  | m + 1 => by
    have ih := len_rowsU hk (m := m)
    have e : ((rowsU k m).flatMap fun r => (List.range k).map fun o => o :: r).length = (rowsU k m).length * k := by
      induction rowsU k m with
      | nil => simp
      | cons r l ih => simp [ih, Nat.add_mul, Nat.add_comm]
    unfold rowsU
    rw [List.length_cons, e]
    have e1 : (rowsU k m).length * k ≤ (rowsU k m).length * 3 := Nat.mul_le_mul_left _ hk
    have e2 : 3 ^ (m + 1 + 1) = 3 ^ (m + 1) * 3 := Nat.pow_succ ..
    omega
/-- all situations -/
def sitU (p : Pl) (m : Nat) : List Sit := (List.range p.n).flatMap fun x => (rowsU p.k m).map fun r => (x, r)
theorem mem_sitU {p : Pl} {m : Nat} {s : Sit} (h : SOk p m s) : s ∈ sitU p m :=
  List.mem_flatMap.mpr ⟨s.1, by simpa using h.at_, List.mem_map.mpr ⟨s.2, mem_rowsU h.len h.row, rfl⟩⟩
theorem len_sitU {p : Pl} (ok : p.Ok) {m : Nat} (hm : m ≤ 4) : (sitU p m).length ≤ 726 := by
  have e : (sitU p m).length = p.n * (rowsU p.k m).length := by
    unfold sitU
    generalize p.n = n
    induction n with
    | zero => simp
    | succ n ih => rw [List.range_succ, List.flatMap_append, List.length_append, ih]; simp [Nat.add_mul]
  have h1 := len_rowsU ok.k3 (m := m)
  have h2 : 3 ^ (m + 1) ≤ 3 ^ 5 := Nat.pow_le_pow_right (by omega) (by omega)
  have h3 : (rowsU p.k m).length ≤ 121 := by omega
  have h4 : p.n ≤ 6 := ok.n6
  rw [e]
  calc p.n * (rowsU p.k m).length ≤ 6 * 121 := Nat.mul_le_mul h4 h3
    _ = 726 := rfl
section
variable {p : Pl} (ok : p.Ok) {a b : Nat} {s : Sit} {o : Nat} (h : SOk p (a + b) s) (ho : o < p.k)
include h ho
theorem row1 : ∀ x ∈ s.2 ++ [o], x < p.k := by
  intro x hx
  rcases List.mem_append.mp hx with hx | hx
  · exact h.row x hx
  · simp at hx; omega
include ok
/-- the next situations -/
theorem mem_next {t : Sit} : t ∈ nextIn a b p s o ↔
    (s.2.length + 1 ≤ a ∧ t = (s.1, s.2 ++ [o])) ∨ (a ≤ s.2.length ∧ ((t.1 ∈ after p [s.1] ((s.2 ++ [o]).take (s.2.length + 1 - a)) ∧ t.2 = (s.2 ++ [o]).drop (s.2.length + 1 - a)) ∨ (s.2.length + 1 ≤ a + b ∧ t = (s.1, s.2 ++ [o])))) := by
  unfold nextIn dueIn
  have hl : (s.2 ++ [o]).length = s.2.length + 1 := by simp
  simp only [hl]
  by_cases hc : s.2.length + 1 < a + 1
  · rw [if_pos hc]
    simp only [if_true, List.mem_singleton]
    constructor
    · intro e; exact .inl ⟨by omega, e⟩
    · rintro (⟨_, e⟩ | ⟨q, _⟩)
      · exact e
      · omega
  · rw [if_neg hc]
    have hne : after p [s.1] ((s.2 ++ [o]).take (s.2.length + 1 - a)) ≠ [] := after_ne ok (by simpa using h.at_) (fun x hx => row1 h ho x (List.mem_of_mem_take hx)) (by simp)
    simp only [if_neg hne, mem_sortS, List.mem_append, List.mem_map]
    constructor
    · rintro (⟨y, hy, rfl⟩ | q)
      · exact .inr ⟨by omega, .inl ⟨hy, rfl⟩⟩
      · split at q
        · rename_i hq
          simp at q
          exact .inr ⟨by omega, .inr ⟨hq, q⟩⟩
        · simp at q
    · rintro (⟨q, _⟩ | ⟨_, ⟨q1, q2⟩ | ⟨q1, q2⟩⟩)
      · omega
      · refine .inl ⟨t.1, q1, ?_⟩
        rw [← q2]
      · refine .inr ?_
        rw [if_pos q1, q2]; simp
theorem next_ok {t : Sit} (ht : t ∈ nextIn a b p s o) : SOk p (a + b) t := by
  rcases (mem_next ok h ho).mp ht with ⟨q, rfl⟩ | ⟨q, ⟨q1, q2⟩ | ⟨q1, rfl⟩⟩
  · exact ⟨h.at_, by simp; omega, row1 h ho⟩
  · refine ⟨after_lt ok (by simpa using h.at_) (fun x hx => row1 h ho x (List.mem_of_mem_take hx)) _ q1, ?_, ?_⟩
    · rw [q2]; simp; omega
    · rw [q2]; intro x hx; exact row1 h ho x (List.mem_of_mem_drop hx)
  · exact ⟨h.at_, by simp; omega, row1 h ho⟩
theorem len_next : (nextIn a b p s o).length ≤ 7 := by
  unfold nextIn
  split
  · simp
  · rw [len_sortS, List.length_append, List.length_map]
    have h1 : (dueIn a p (s.1, s.2 ++ [o])).1.length ≤ 6 := by
      unfold dueIn
      split
      · simp
      · have := asc_len (n := p.n) (asc_after (p := p) (row := (s.2 ++ [o]).take ((s.2 ++ [o]).length - a)) (ps := [s.1]) (by simp)) (after_lt ok (by simpa using h.at_) (fun x hx => row1 h ho x (List.mem_of_mem_take hx)))
        have h6 : p.n ≤ 6 := ok.n6
        simp only at this ⊢
        omega
    split <;> simp <;> omega
end
theorem len_flat {α : Type} {c : Nat} : ∀ {l : List (List α)}, (∀ x ∈ l, x.length ≤ c) → l.flatten.length ≤ c * l.length
  | [], _ => by simp
  | x :: l, h => by
    have h1 := h x (by simp)
    have h2 := len_flat (l := l) fun y hy => h y (by simp [hy])
    simp [Nat.mul_add]
    simp at h2
    omega
/-- ranks: what is lost in so many beats -/
def lose (p : Pl) (a b : Nat) : Nat → Sit → Bool
  | 0, s => !clear p (stands p s)
  | n + 1, s => lose p a b n s || (outs p.k a b p s).all fun l => l.any fun t => lose p a b n t
abbrev WayC (p : Pl) (a b : Nat) (s : Sit) (W : List (Sit × List (List Sit))) : Prop := Closed (outs p.k a b p) List.flatten (fun _ => true) (SOk p (a + b)) s W
theorem outs_mem {p : Pl} {a b : Nat} {s : Sit} {l : List Sit} (h : l ∈ outs p.k a b p s) : ∃ o, o < p.k ∧ l = nextIn a b p s o := by
  unfold outs at h
  obtain ⟨o, ho, rfl⟩ := List.mem_map.mp h
  exact ⟨o, by simpa using ho, rfl⟩
theorem ways_ok {p : Pl} (ok : p.Ok) {a b : Nat} (hab : a + b ≤ 4) {s : Sit} (h : SOk p (a + b) s) : ∃ W, waysK p a b s = some W ∧ WayC p a b s W := by
  unfold waysK
  refine waysP_ok (U := sitU p (a + b)) (c := 21) (fun t => mem_sitU) ?_ ?_ 100000 [] [s] (by simp) (by simp) (by simpa using h) (by simp) (by simp) ?_
  · intro t ht _ u hu
    obtain ⟨l, hl, hu⟩ := List.mem_flatten.mp hu
    obtain ⟨o, ho, rfl⟩ := outs_mem hl
    exact next_ok ok ht ho hu
  · intro t ht
    have e : (outs p.k a b p t).length = p.k := by simp [outs]
    have := len_flat (l := outs p.k a b p t) (c := 7) fun l hl => by
      obtain ⟨o, ho, rfl⟩ := outs_mem hl
      exact len_next ok ht ho
    have h3 := ok.k3
    rw [e] at this
    omega
  · have := len_sitU ok hab
    simp
    omega
theorem lv_lose {p : Pl} {a b : Nat} {s0 : Sit} {W : List (Sit × List (List Sit))} (c : WayC p a b s0 W) : ∀ n s, hasK W s = true →
    lv (W.map (·.1)).contains (fun s => !clear p (stands p s)) (fun X s => ((W.lookup s).getD []).all fun l => l.any X) n s = lose p a b n s
  | 0, s, _ => rfl
  | n + 1, s, hs => by
    have hs' : s ∈ W.map (·.1) := hasK_iff.mp hs
    obtain ⟨⟨s', v⟩, hv, rfl⟩ := List.mem_map.mp hs'
    obtain ⟨e1, _, _⟩ := c.val _ v hv
    have e2 := lookup_mem c.nd hv
    unfold lv lose
    rw [lv_lose c n _ hs, e2, Option.getD_some, e1]
    congr 1
    rw [Bool.eq_iff_iff, List.all_eq_true, List.all_eq_true]
    have key : ∀ l ∈ outs p.k a b p s', ∀ t ∈ l, ((W.map (·.1)).contains t && lv (W.map (·.1)).contains (fun s => !clear p (stands p s)) (fun X s => ((W.lookup s).getD []).all fun l => l.any X) n t) = lose p a b n t := by
      intro l hl t ht
      have hk := c.cl _ v hv t (List.mem_flatten.mpr ⟨l, hl, ht⟩) rfl
      have hk' : (W.map (·.1)).contains t = true := by simpa using hasK_iff.mp hk
      rw [hk', Bool.true_and, lv_lose c n t hk]
    constructor
    · intro q l hl
      obtain ⟨t, ht, q⟩ := List.any_eq_true.mp (q l hl)
      rw [key l hl t ht] at q
      exact List.any_eq_true.mpr ⟨t, ht, q⟩
    · intro q l hl
      obtain ⟨t, ht, q⟩ := List.any_eq_true.mp (q l hl)
      rw [← key l hl t ht] at q
      exact List.any_eq_true.mpr ⟨t, ht, q⟩
theorem isRk_congr {S : Type} {L L' : Nat → S → Bool} {s : S} {r : Option Nat} (h : ∀ n, L n s = L' n s) (q : IsRk L s r) : IsRk L' s r := by
  cases r with
  | none => intro n; rw [← h]; exact q n
  | some m => exact ⟨by rw [← h]; exact q.1, fun j hj => by rw [← h]; exact q.2 j hj⟩
theorem ranks_ok {p : Pl} (ok : p.Ok) {a b : Nat} (hab : a + b ≤ 4) {s0 : Sit} {W : List (Sit × List (List Sit))} (c : WayC p a b s0 W) :
    ∃ R, ranksK p W = some R ∧ (R.map (·.1)).Nodup ∧ (∀ s, hasK R s = true → hasK W s = true) ∧ ∀ s, hasK W s = true → IsRk (lose p a b) s (R.lookup s) := by
  have hl : (W.map (·.1)).length ≤ (sitU p (a + b)).length := nodup_len c.nd fun x hx => by
    obtain ⟨⟨s', v⟩, hv, rfl⟩ := List.mem_map.mp hx
    exact mem_sitU (c.val _ v hv).2.2
  have hu := len_sitU ok hab
  obtain ⟨R, e, nd, sub, q⟩ := ranksP_all (keys := W.map (·.1)) (ini := fun s => !clear p (stands p s)) (dft := fun R s => defeated R ((W.lookup s).getD [])) (D := fun X s => ((W.lookup s).getD []).all fun l => l.any X) c.nd (fun R s _ => rfl) (by
    intro s hs hd
    exfalso
    have hs' : s ∈ W.map (·.1) := by simpa using hs
    obtain ⟨⟨s', v⟩, hv, rfl⟩ := List.mem_map.mp hs'
    obtain ⟨e1, _, _⟩ := c.val _ v hv
    have e2 := lookup_mem c.nd hv
    simp only at hd
    rw [e2, Option.getD_some, e1] at hd
    have k1 := ok.k1
    have := List.all_eq_true.mp hd (nextIn a b p s' 0) (by unfold outs; exact List.mem_map.mpr ⟨0, by simp only [List.mem_range]; omega, rfl⟩)
    simp at this) (n := 100000) (by omega)
  exact ⟨R, e, nd, fun s hs => hasK_iff.mpr (sub s hs), fun s hs => isRk_congr (fun n => lv_lose c n s hs) (q s (hasK_iff.mp hs))⟩
end PF
end L2

set_option Elab.async false
set_option linter.all false
namespace L2
namespace PF
theorem mem_after {p : Pl} {y : Nat} : ∀ {row ps : List Nat}, y ∈ after p ps row ↔ ∃ x ∈ ps, y ∈ after p [x] row
  | [], ps => by simp [after]
  | o :: row, ps => by
    rw [after_cons, mem_after]
    constructor
    · rintro ⟨x, hx, h⟩
      obtain ⟨z, hz, hx⟩ := mem_led.mp hx
      refine ⟨z, hz, ?_⟩
      rw [after_cons, mem_after]
      exact ⟨x, mem_led.mpr ⟨z, by simp, hx⟩, h⟩
    · rintro ⟨z, hz, h⟩
      rw [after_cons, mem_after] at h
      obtain ⟨x, hx, h⟩ := h
      obtain ⟨z', hz', hx2⟩ := mem_led.mp hx
      simp at hz'
      subst hz'
      exact ⟨x, mem_led.mpr ⟨_, hz, hx2⟩, h⟩
theorem path {p : Pl} {y : Nat} {ps r1 r2 : List Nat} : y ∈ after p ps (r1 ++ r2) ↔ ∃ q ∈ after p ps r1, y ∈ after p [q] r2 := by
  rw [after_app, mem_after]
theorem lose0 {p : Pl} {a b : Nat} {s : Sit} : lose p a b 0 s = true ↔ ∃ y ∈ stands p s, y ∈ p.bad := by
  unfold lose clear
  rw [Bool.not_eq_true', ← Bool.not_eq_true, List.all_eq_true]
  constructor
  · intro h
    refine Classical.byContradiction fun h' => h fun x hx => ?_
    simp
    intro hb
    exact h' ⟨x, hx, hb⟩
  · rintro ⟨y, hy, hb⟩ h
    have := h y hy
    simp at this
    exact this hb
theorem lose1 {p : Pl} {a b n : Nat} {s : Sit} : lose p a b (n + 1) s = true ↔ lose p a b n s = true ∨ ∀ o, o < p.k → ∃ t ∈ nextIn a b p s o, lose p a b n t = true := by
  show (lose p a b n s || (outs p.k a b p s).all fun l => l.any fun t => lose p a b n t) = true ↔ _
  rw [Bool.or_eq_true, List.all_eq_true]
  refine or_congr Iff.rfl ?_
  constructor
  · intro h o ho
    have := h (nextIn a b p s o) (by unfold outs; exact List.mem_map.mpr ⟨o, by simpa using ho, rfl⟩)
    exact List.any_eq_true.mp this
  · intro h l hl
    obtain ⟨o, ho, rfl⟩ := outs_mem hl
    exact List.any_eq_true.mpr (h o ho)
theorem sim {p : Pl} {a b a' b' : Nat} (R : Sit → Sit → Prop) (h0 : ∀ s t, R s t → lose p a' b' 0 t = true → lose p a b 0 s = true)
    (h1 : ∀ s t o, R s t → o < p.k → ∀ t' ∈ nextIn a' b' p t o, ∃ s' ∈ nextIn a b p s o, R s' t') : ∀ n s t, R s t → lose p a' b' n t = true → lose p a b n s = true
  | 0, s, t, r, h => h0 s t r h
  | n + 1, s, t, r, h => by
    rw [lose1] at h ⊢
    rcases h with h | h
    · exact .inl (sim R h0 h1 n s t r h)
    · refine .inr fun o ho => ?_
      obtain ⟨t', ht, hl⟩ := h o ho
      obtain ⟨s', hs, r'⟩ := h1 s t o r ho t' ht
      exact ⟨s', hs, sim R h0 h1 n s' t' r' hl⟩
/-- s is heard no better than t: t's place lies on a way from s's -/
structure Wor (p : Pl) (m m' n : Nat) (s t : Sit) : Prop where
  so : SOk p m s
  to : SOk p m' t
  ex : ∃ pre, s.2 = pre ++ t.2 ∧ t.1 ∈ after p [s.1] pre ∧ pre.length ≤ n
theorem sim_news {p : Pl} (ok : p.Ok) {a b a' b' : Nat} (hle : a' ≤ a) {n : Nat} (h1 : a - a' ≤ n) (h2 : ∀ m l, m ≤ n → l ≤ a' + b' → m + l ≤ a + b ∨ (l ≤ a ∧ a - l ≤ n)) : ∀ j s t, Wor p (a + b) (a' + b') n s t → lose p a' b' j t = true → lose p a b j s = true := by
  refine sim _ ?_ ?_
  · rintro s t ⟨hs, ht, pre, e, hq, _⟩ h
    rw [lose0] at h ⊢
    obtain ⟨y, hy, hb⟩ := h
    refine ⟨y, ?_, hb⟩
    unfold stands at hy ⊢
    rw [e]
    exact path.mpr ⟨t.1, hq, hy⟩
  · rintro s t o ⟨hs, ht, pre, e, hq, hn⟩ ho t' ht'
    have hlen : s.2.length = pre.length + t.2.length := by rw [e]; simp
    have hlong : s.2 ++ [o] = pre ++ (t.2 ++ [o]) := by rw [e, List.append_assoc]
    have okt := next_ok ok ht ho ht'
    -- where a place is heard: on the way
    have hear : ∀ (y : Nat) (i : Nat), y ∈ after p [s.1] ((s.2 ++ [o]).take i) → i ≤ s.2.length + 1 → a ≤ s.2.length → s.2.length + 1 - a ≤ i → t' = (y, (s.2 ++ [o]).drop i) → i - (s.2.length + 1 - a) ≤ n →
        ∃ s' ∈ nextIn a b p s o, Wor p (a + b) (a' + b') n s' t' := by
      intro y i hy hi ha hi2 et hn2
      have e1 : (s.2 ++ [o]).take i = (s.2 ++ [o]).take (s.2.length + 1 - a) ++ ((s.2 ++ [o]).drop (s.2.length + 1 - a)).take (i - (s.2.length + 1 - a)) := by
        conv => lhs; rw [show i = (s.2.length + 1 - a) + (i - (s.2.length + 1 - a)) by omega]
        rw [List.take_add]
      rw [e1] at hy
      obtain ⟨q, hq1, hq2⟩ := path.mp hy
      have hm : (q, (s.2 ++ [o]).drop (s.2.length + 1 - a)) ∈ nextIn a b p s o := (mem_next ok hs ho).mpr (.inr ⟨ha, .inl ⟨hq1, rfl⟩⟩)
      refine ⟨_, hm, next_ok ok hs ho hm, okt, ((s.2 ++ [o]).drop (s.2.length + 1 - a)).take (i - (s.2.length + 1 - a)), ?_, ?_, ?_⟩
      · rw [et]
        have : (s.2 ++ [o]).drop i = ((s.2 ++ [o]).drop (s.2.length + 1 - a)).drop (i - (s.2.length + 1 - a)) := by
          rw [List.drop_drop]
          congr 1
          omega
        simp only [this, List.take_append_drop]
      · rw [et]; exact hq2
      · exact Nat.le_trans (List.length_take_le _ _) hn2
    have keep : s.2.length + 1 ≤ a + b → (s.1, s.2 ++ [o]) ∈ nextIn a b p s o := by
      intro hk
      refine (mem_next ok hs ho).mpr ?_
      by_cases q : s.2.length + 1 ≤ a
      · exact .inl ⟨q, rfl⟩
      · exact .inr ⟨by omega, .inr ⟨hk, rfl⟩⟩
    -- t' has the same place and one order more
    have stay : t' = (t.1, t.2 ++ [o]) → t.2.length + 1 ≤ a' + b' → ∃ s' ∈ nextIn a b p s o, Wor p (a + b) (a' + b') n s' t' := by
      intro et hl
      by_cases hk : s.2.length + 1 ≤ a + b
      · refine ⟨_, keep hk, next_ok ok hs ho (keep hk), okt, pre, ?_, ?_, hn⟩
        · rw [et]; exact hlong
        · rw [et]; exact hq
      · rcases h2 pre.length (t.2.length + 1) hn hl with h | ⟨h, h'⟩
        · omega
        · refine hear t.1 pre.length ?_ (by omega) (by omega) (by omega) ?_ (by omega)
          · rw [hlong]
            simpa using hq
          · rw [et, hlong]; simp
    rcases (mem_next ok ht ho).mp ht' with ⟨q, et⟩ | ⟨q, ⟨q1, q2⟩ | ⟨q1, et⟩⟩
    · exact stay et (by omega)
    · -- t hears
      have hy : t'.1 ∈ after p [s.1] ((s.2 ++ [o]).take (pre.length + (t.2.length + 1 - a'))) := by
        rw [hlong, List.take_append, List.take_of_length_le (by omega : pre.length ≤ _)]
        refine path.mpr ⟨t.1, hq, ?_⟩
        rw [show pre.length + (t.2.length + 1 - a') - pre.length = t.2.length + 1 - a' by omega]
        exact q1
      have et : t' = (t'.1, (s.2 ++ [o]).drop (pre.length + (t.2.length + 1 - a'))) := by
        rw [hlong, List.drop_append, List.drop_of_length_le (by omega : pre.length ≤ _), List.nil_append]
        rw [show pre.length + (t.2.length + 1 - a') - pre.length = t.2.length + 1 - a' by omega]
        rw [← q2]
      by_cases ha : a ≤ s.2.length
      · exact hear _ _ hy (by omega) ha (by omega) et (by omega)
      · refine ⟨_, keep (by omega), next_ok ok hs ho (keep (by omega)), okt, (s.2 ++ [o]).take (pre.length + (t.2.length + 1 - a')), ?_, hy, ?_⟩
        · show s.2 ++ [o] = _
          rw [et]
          simp only [List.take_append_drop]
        · refine Nat.le_trans (List.length_take_le _ _) ?_
          omega
    · exact stay et q1
/-- None counts as greater than all -/
def leR : Option Nat → Option Nat → Bool
  | _, none => true
  | some i, some j => decide (i ≤ j)
  | none, some _ => false
theorem leR_of {L L' : Nat → Sit → Bool} {s t : Sit} {r r' : Option Nat} (h : IsRk L s r) (h' : IsRk L' t r') (q : ∀ n, L' n t = true → L n s = true) : leR r r' = true := by
  cases r' with
  | none => cases r <;> rfl
  | some j =>
    have := q j h'.1
    cases r with
    | none => rw [h j] at this; cases this
    | some i =>
      refine decide_eq_true ?_
      refine Classical.byContradiction fun hi => ?_
      rw [h.2 j (by omega)] at this
      cases this
theorem isRk_unique {S : Type} {L : Nat → S → Bool} {s : S} : ∀ {r r' : Option Nat}, IsRk L s r → IsRk L s r' → r = r'
  | none, none, _, _ => rfl
  | none, some j, h, h' => by have := h'.1; rw [h j] at this; cases this
  | some i, none, h, h' => by have := h.1; rw [h' i] at this; cases this
  | some i, some j, h, h' => by
    by_cases q : i < j
    · have := h.1; rw [h'.2 i q] at this; cases this
    · by_cases q' : j < i
      · have := h'.1; rw [h.2 j q'] at this; cases this
      · rw [show i = j by omega]
theorem wor_refl {p : Pl} {m m' n : Nat} {s : Sit} (h : SOk p m s) (h' : SOk p m' s) : Wor p m m' n s s := ⟨h, h', [], by simp, by simp [after], by simp⟩
/-- later news, and news that is lost more often, has no greater rank -/
theorem worse {p : Pl} (ok : p.Ok) {a b a' b' : Nat} (ha : a' ≤ a) (hb : b' ≤ b) {s : Sit} (h : SOk p 0 s) {r r' : Option Nat} (hr : IsRk (lose p a b) s r) (hr' : IsRk (lose p a' b') s r') : leR r r' = true :=
  leR_of hr hr' fun n => sim_news ok ha (n := a - a') (Nat.le_refl _) (fun m l hm hl => .inl (by omega)) n s s (wor_refl ⟨h.at_, by have := h.len; omega, h.row⟩ ⟨h.at_, by have := h.len; omega, h.row⟩)
/-- and no less than with all of it as beats -/
theorem allbeats {p : Pl} (ok : p.Ok) {a b : Nat} {s : Sit} (h : SOk p 0 s) {r r' : Option Nat} (hr : IsRk (lose p (a + b) 0) s r) (hr' : IsRk (lose p a b) s r') : leR r r' = true :=
  leR_of hr hr' fun n => sim_news ok (a := a + b) (b := 0) (by omega) (n := a + b) (by omega) (fun m l hm hl => .inr ⟨hl, by omega⟩) n s s (wor_refl ⟨h.at_, by have := h.len; omega, h.row⟩ ⟨h.at_, by have := h.len; omega, h.row⟩)
end PF
end L2

set_option Elab.async false
set_option linter.all false
namespace L2
namespace PF
/-! ### beliefs without news -/
abbrev Bel := List Nat
/-- the beliefs after each order -/
def bouts (p : Pl) (B : Bel) : List Bel := (List.range p.k).map fun o => led p B o
structure BOk (p : Pl) (B : Bel) : Prop where
  asc : B.Pairwise (· < ·)
  lt : ∀ x ∈ B, x < p.n
def subs : List Nat → List (List Nat)
  | [] => [[]]
  | x :: xs => subs xs ++ (subs xs).map fun l => x :: l
theorem len_subs : ∀ {m : List Nat}, (subs m).length = 2 ^ m.length
  | [] => rfl
  | x :: xs => by
    simp only [subs, List.length_append, List.length_map, len_subs (m := xs), List.length_cons, Nat.pow_succ]
    omega
theorem mem_subs : ∀ {m l : List Nat}, m.Pairwise (· < ·) → l.Pairwise (· < ·) → (∀ x ∈ l, x ∈ m) → l ∈ subs m
  | [], l, _, _, h => by
    cases l with
    | nil => simp [subs]
    | cons a l => exact absurd (h a (by simp)) (by simp)
  | x :: xs, l, hm, hl, h => by
    have hm' := List.pairwise_cons.mp hm
    unfold subs
    rw [List.mem_append, List.mem_map]
    cases l with
    | nil => exact .inl (mem_subs hm'.2 (by simp) (by simp))
    | cons a l =>
      have hl' := List.pairwise_cons.mp hl
      by_cases e : a = x
      · subst e
        refine .inr ⟨l, mem_subs hm'.2 hl'.2 fun y hy => ?_, rfl⟩
        rcases List.mem_cons.mp (h y (by simp [hy])) with e | e
        · exact absurd (hl'.1 y hy) (by omega)
        · exact e
      · have ha : a ∈ xs := (List.mem_cons.mp (h a (by simp))).resolve_left e
        refine .inl (mem_subs hm'.2 hl fun y hy => ?_)
        rcases List.mem_cons.mp (h y hy) with e' | e'
        · exfalso
          have := hm'.1 a ha
          rcases List.mem_cons.mp hy with q | q
          · omega
          · have := hl'.1 y q; omega
        · exact e'
theorem mem_bouts {p : Pl} {B C : Bel} (h : C ∈ bouts p B) : ∃ o, o < p.k ∧ C = led p B o := by
  unfold bouts at h
  obtain ⟨o, ho, rfl⟩ := List.mem_map.mp h
  exact ⟨o, by simpa using ho, rfl⟩
theorem bouts_mem {p : Pl} {B : Bel} {o : Nat} (h : o < p.k) : led p B o ∈ bouts p B := List.mem_map.mpr ⟨o, by simpa using h, rfl⟩
theorem bok_led {p : Pl} (ok : p.Ok) {B : Bel} (h : BOk p B) {o : Nat} (ho : o < p.k) : BOk p (led p B o) := ⟨asc_led, led_lt ok h.lt ho⟩
theorem bok_stands {p : Pl} (ok : p.Ok) {m : Nat} {s : Sit} (h : SOk p m s) : BOk p (stands p s) := ⟨asc_after (by simp), after_lt ok (by simpa using h.at_) h.row⟩
abbrev BWay (p : Pl) (B : Bel) (W : List (Bel × List Bel)) : Prop := Closed (bouts p) (fun l => l) (clear p) (BOk p) B W
def bways (p : Pl) (B : Bel) : Option (List (Bel × List Bel)) := waysP (bouts p) (fun l => l) (clear p) 100000 [] [B]
theorem bways_len {p : Pl} (ok : p.Ok) {B : Bel} {W : List (Bel × List Bel)} (c : BWay p B W) : W.length ≤ 64 := by
  have := nodup_len (U := subs (List.range p.n)) c.nd fun x hx => by
    obtain ⟨⟨B', v⟩, hv, rfl⟩ := List.mem_map.mp hx
    have hb := (c.val _ v hv).2.2
    exact mem_subs List.pairwise_lt_range hb.asc fun y hy => by simpa using hb.lt y hy
  rw [len_subs, List.length_map, List.length_range] at this
  have h6 : p.n ≤ 6 := ok.n6
  have : 2 ^ p.n ≤ 2 ^ 6 := Nat.pow_le_pow_right (by omega) h6
  omega
theorem bways_ok {p : Pl} (ok : p.Ok) {B : Bel} (h : BOk p B) : ∃ W, bways p B = some W ∧ BWay p B W := by
  unfold bways
  refine waysP_ok (U := subs (List.range p.n)) (c := 3) (fun t ht => mem_subs List.pairwise_lt_range ht.asc fun y hy => by simpa using ht.lt y hy) ?_ ?_ 100000 [] [B] (by simp) (by simp) (by simpa using h) (by simp) (by simp) ?_
  · intro t ht _ u hu
    obtain ⟨o, ho, rfl⟩ := mem_bouts hu
    exact bok_led ok ht ho
  · intro t ht
    have := ok.k3
    simpa [bouts] using this
  · rw [len_subs, List.length_range]
    have h6 : p.n ≤ 6 := ok.n6
    have : 2 ^ p.n ≤ 2 ^ 6 := Nat.pow_le_pow_right (by omega) h6
    simp
    omega
/-- so many orders can be given -/
def gl (p : Pl) : Nat → Bel → Bool
  | 0, B => clear p B
  | n + 1, B => clear p B && (bouts p B).any fun C => gl p n C
theorem gl_clear {p : Pl} {n : Nat} {B : Bel} (h : gl p n B = true) : clear p B = true := by
  cases n with
  | zero => exact h
  | succ n =>
    unfold gl at h
    rw [Bool.and_eq_true] at h
    exact h.1
theorem gl_step {p : Pl} {n : Nat} {B : Bel} : gl p (n + 1) B = true ↔ clear p B = true ∧ ∃ o, o < p.k ∧ gl p n (led p B o) = true := by
  show (clear p B && (bouts p B).any fun C => gl p n C) = true ↔ _
  rw [Bool.and_eq_true, List.any_eq_true]
  refine and_congr Iff.rfl ?_
  constructor
  · rintro ⟨C, hC, h⟩
    obtain ⟨o, ho, rfl⟩ := mem_bouts hC
    exact ⟨o, ho, h⟩
  · rintro ⟨o, ho, h⟩
    exact ⟨_, bouts_mem ho, h⟩
theorem gl_pred {p : Pl} : ∀ {n : Nat} {B : Bel}, gl p (n + 1) B = true → gl p n B = true
  | 0, B, h => gl_clear h
  | n + 1, B, h => by
    obtain ⟨a, o, ho, b⟩ := gl_step.mp h
    exact gl_step.mpr ⟨a, o, ho, gl_pred b⟩
theorem gl_le {p : Pl} {n m : Nat} {B : Bel} (h : n ≤ m) (q : gl p m B = true) : gl p n B = true := by
  induction h with
  | refl => exact q
  | step _ ih => exact ih (gl_pred q)
/-- how many orders can be given at most; none: for ever -/
def Len (p : Pl) (B : Bel) : Option Nat → Prop
  | some m => gl p m B = true ∧ gl p (m + 1) B = false
  | none => ∀ n, gl p n B = true
theorem hasK_closed {p : Pl} {B0 B : Bel} {W : List (Bel × List Bel)} (c : BWay p B0 W) (h : hasK W B = true) {C : Bel} (hC : C ∈ bouts p B) : hasK W C = clear p C := by
  obtain ⟨⟨B', v⟩, hv, rfl⟩ := List.mem_map.mp (hasK_iff.mp h)
  rw [Bool.eq_iff_iff]
  constructor
  · intro q
    obtain ⟨⟨C', w⟩, hw, rfl⟩ := List.mem_map.mp (hasK_iff.mp q)
    exact (c.val _ w hw).2.1
  · exact c.cl _ v hv C hC
theorem hasK_clear {p : Pl} {B0 B : Bel} {W : List (Bel × List Bel)} (c : BWay p B0 W) (h : hasK W B = true) : clear p B = true := by
  obtain ⟨⟨B', v⟩, hv, rfl⟩ := List.mem_map.mp (hasK_iff.mp h)
  exact (c.val _ v hv).2.1
theorem look_way {p : Pl} {B0 B : Bel} {W : List (Bel × List Bel)} (c : BWay p B0 W) (h : hasK W B = true) : W.lookup B = some (bouts p B) := by
  obtain ⟨⟨B', v⟩, hv, rfl⟩ := List.mem_map.mp (hasK_iff.mp h)
  have := lookup_mem c.nd hv
  rw [(c.val _ v hv).1] at this
  exact this
/-- the rounds of lengths -/
def lenD (W : List (Bel × List Bel)) (X : Bel → Bool) (B : Bel) : Bool := !((W.lookup B).getD []).any fun C => hasK W C && !X C
def lenI (W : List (Bel × List Bel)) (B : Bel) : Bool := !((W.lookup B).getD []).any fun C => hasK W C
def lengthsP (W : List (Bel × List Bel)) : Option (List (Bel × Nat)) := ranksP (W.map (·.1)) (fun R B => lenD W (hasK R) B) 100000 [] 0 ((W.map (·.1)).filter (lenI W))
theorem any_congr' {α : Type} {l : List α} {f g : α → Bool} (h : ∀ x ∈ l, f x = g x) : l.any f = l.any g := by
  rw [Bool.eq_iff_iff, List.any_eq_true, List.any_eq_true]
  constructor
  · rintro ⟨x, hx, q⟩; exact ⟨x, hx, by rw [← h x hx]; exact q⟩
  · rintro ⟨x, hx, q⟩; exact ⟨x, hx, by rw [h x hx]; exact q⟩
theorem lv_len {p : Pl} {B0 : Bel} {W : List (Bel × List Bel)} (c : BWay p B0 W) : ∀ n B, hasK W B = true → lv (W.map (·.1)).contains (lenI W) (lenD W) n B = !gl p (n + 1) B
  | 0, B, h => by
    show lenI W B = _
    unfold lenI
    rw [look_way c h, Option.getD_some]
    congr 1
    have : gl p (0 + 1) B = (clear p B && (bouts p B).any fun C => clear p C) := rfl
    rw [this, hasK_clear c h, Bool.true_and]
    exact any_congr' fun C hC => hasK_closed c h hC
  | n + 1, B, h => by
    have ih := lv_len c n B h
    show (lv (W.map (·.1)).contains (lenI W) (lenD W) n B || !((W.lookup B).getD []).any fun C => hasK W C && !((W.map (·.1)).contains C && lv (W.map (·.1)).contains (lenI W) (lenD W) n C)) = _
    rw [ih]
    rw [look_way c h, Option.getD_some]
    have e : ((bouts p B).any fun C => hasK W C && !((W.map (·.1)).contains C && lv (W.map (·.1)).contains (lenI W) (lenD W) n C)) = (bouts p B).any fun C => gl p (n + 1) C := by
      refine any_congr' fun C hC => ?_
      have hk := hasK_closed c h hC
      cases hc : hasK W C with
      | false =>
        rw [hc] at hk
        rw [Bool.false_and]
        cases hg : gl p (n + 1) C with
        | false => rfl
        | true => rw [gl_clear hg] at hk; cases hk
      | true =>
        have hk2 : (W.map (·.1)).contains C = true := by simpa using hasK_iff.mp hc
        rw [hk2, lv_len c n C hc]
        simp
    rw [e]
    have e2 : gl p (n + 1 + 1) B = (clear p B && (bouts p B).any fun C => gl p (n + 1) C) := rfl
    rw [e2, hasK_clear c h, Bool.true_and]
    cases h1 : (bouts p B).any fun C => gl p (n + 1) C with
    | false => simp
    | true =>
      have : gl p (n + 1 + 1) B = true := by rw [e2, hasK_clear c h, h1]; rfl
      rw [gl_pred this]; rfl
theorem lengths_ok {p : Pl} (ok : p.Ok) {B0 : Bel} {W : List (Bel × List Bel)} (c : BWay p B0 W) :
    ∃ L, lengthsP W = some L ∧ (L.map (·.1)).Nodup ∧ (∀ B, hasK L B = true → hasK W B = true) ∧ ∀ B, hasK W B = true → Len p B (L.lookup B) := by
  have hl : (W.map (·.1)).length ≤ 64 := by rw [List.length_map]; exact bways_len ok c
  obtain ⟨L, e, nd, sub, q⟩ := ranksP_all (keys := W.map (·.1)) (ini := lenI W) (dft := fun R B => lenD W (hasK R) B) (D := lenD W) c.nd (fun R s _ => rfl) (by
    intro B hB hd
    unfold lenD at hd
    unfold lenI
    simpa using hd) (n := 100000) (by omega)
  refine ⟨L, e, nd, fun B hB => hasK_iff.mpr (sub B hB), fun B hB => ?_⟩
  have := q B (hasK_iff.mp hB)
  cases hv : L.lookup B with
  | none =>
    rw [hv] at this
    intro n
    have h1 := this n
    rw [lv_len c n B hB] at h1
    have : gl p (n + 1) B = true := by simpa using h1
    exact gl_pred this
  | some m =>
    rw [hv] at this
    obtain ⟨h1, h2⟩ := this
    rw [lv_len c m B hB] at h1
    refine ⟨?_, by simpa using h1⟩
    cases m with
    | zero => exact hasK_clear c hB
    | succ m =>
      have := h2 m (by omega)
      rw [lv_len c m B hB] at this
      simpa using this
theorem len_unique {p : Pl} {B : Bel} : ∀ {r r' : Option Nat}, Len p B r → Len p B r' → r = r'
  | none, none, _, _ => rfl
  | none, some m, h, h' => by have := h'.2; rw [h (m + 1)] at this; cases this
  | some m, none, h, h' => by have := h.2; rw [h' (m + 1)] at this; cases this
  | some i, some j, h, h' => by
    by_cases q : i < j
    · have := gl_le (p := p) (n := i + 1) (m := j) (by omega) h'.1
      rw [h.2] at this; cases this
    · by_cases q' : j < i
      · have := gl_le (p := p) (n := j + 1) (m := i) (by omega) h.1
        rw [h'.2] at this; cases this
      · rw [show i = j by omega]
/-! ### without news one does no better than with it -/
theorem clear_sub {p : Pl} {B C : Bel} (h : ∀ x ∈ C, x ∈ B) (q : clear p B = true) : clear p C = true := by
  unfold clear at *
  rw [List.all_eq_true] at *
  exact fun x hx => q x (h x hx)
theorem led_sub {p : Pl} {B C : Bel} {o : Nat} (h : ∀ x ∈ C, x ∈ B) : ∀ x ∈ led p C o, x ∈ led p B o := by
  intro x hx
  obtain ⟨y, hy, q⟩ := mem_led.mp hx
  exact mem_led.mpr ⟨y, h y hy, q⟩
/-- what is heard is no more than what could be -/
theorem next_sub {p : Pl} (ok : p.Ok) {a b : Nat} {s : Sit} {o : Nat} (h : SOk p (a + b) s) (ho : o < p.k) {t : Sit} (ht : t ∈ nextIn a b p s o) : ∀ x ∈ stands p t, x ∈ led p (stands p s) o := by
  have e : led p (stands p s) o = after p [s.1] (s.2 ++ [o]) := by
    unfold stands
    rw [after_app]; rfl
  rw [e]
  intro x hx
  unfold stands at hx
  rcases (mem_next ok h ho).mp ht with ⟨_, rfl⟩ | ⟨q, ⟨q1, q2⟩ | ⟨_, rfl⟩⟩
  · exact hx
  · rw [q2] at hx
    rw [← List.take_append_drop (s.2.length + 1 - a) (s.2 ++ [o])]
    exact path.mpr ⟨t.1, q1, hx⟩
  · exact hx
theorem gl_not_lose {p : Pl} (ok : p.Ok) {a b : Nat} : ∀ {n : Nat} {B : Bel} {s : Sit}, SOk p (a + b) s → (∀ x ∈ stands p s, x ∈ B) → gl p n B = true → lose p a b n s = false
  | 0, B, s, h, hs, g => by
    unfold lose
    rw [clear_sub hs (gl_clear g)]; rfl
  | n + 1, B, s, h, hs, g => by
    obtain ⟨c, o, ho, g'⟩ := gl_step.mp g
    cases hl : lose p a b (n + 1) s with
    | false => rfl
    | true =>
      exfalso
      rcases lose1.mp hl with q | q
      · rw [gl_not_lose ok h hs (gl_pred g)] at q; cases q
      · obtain ⟨t, ht, q⟩ := q o ho
        rw [gl_not_lose ok (next_ok ok h ho ht) (fun x hx => led_sub hs x (next_sub ok h ho ht x hx)) g'] at q
        cases q
/-- as long as no news comes in time one does no better with it -/
theorem late_lose {p : Pl} (ok : p.Ok) {a b : Nat} : ∀ {n : Nat} {s : Sit}, SOk p (a + b) s → s.2.length + n ≤ a → gl p n (stands p s) = false → lose p a b n s = true
  | 0, s, h, hl, g => by
    have g : clear p (stands p s) = false := g
    unfold lose
    rw [g]; rfl
  | n + 1, s, h, hl, g => by
    rw [lose1]
    by_cases hc : clear p (stands p s) = true
    · refine .inr fun o ho => ?_
      have ht : (s.1, s.2 ++ [o]) ∈ nextIn a b p s o := (mem_next ok h ho).mpr (.inl ⟨by omega, rfl⟩)
      refine ⟨_, ht, late_lose ok (next_ok ok h ho ht) (by simp; omega) ?_⟩
      cases hg : gl p n (stands p (s.1, s.2 ++ [o])) with
      | false => rfl
      | true =>
        exfalso
        have e : stands p (s.1, s.2 ++ [o]) = led p (stands p s) o := by
          unfold stands
          rw [after_app]; rfl
        rw [e] at hg
        rw [gl_step.mpr ⟨hc, o, ho, hg⟩] at g
        cases g
    · have : lose p a b 0 s = true := by
        unfold lose
        have : clear p (stands p s) = false := by simpa using hc
        rw [this]; rfl
      have up : ∀ m, lose p a b m s = true := by
        intro m
        induction m with
        | zero => exact this
        | succ m ih => exact lose1.mpr (.inl ih)
      exact .inl (up n)
/-- the rank by the length -/
theorem rank_len {p : Pl} (ok : p.Ok) {a b : Nat} {s : Sit} (h : SOk p (a + b) s) {r l : Option Nat} (hr : IsRk (lose p a b) s r) (hl : Len p (stands p s) l) : match l with
    | none => r = none
    | some m => (r = none ∨ ∃ j, r = some j ∧ m < j) ∧ (s.2.length + m < a → r = some (m + 1)) := by
  cases l with
  | none =>
    cases r with
    | none => rfl
    | some j =>
      have := hr.1
      rw [gl_not_lose ok h (fun x hx => hx) (hl j)] at this
      cases this
  | some m =>
    refine ⟨?_, fun hm => ?_⟩
    · cases r with
      | none => exact .inl rfl
      | some j =>
        refine .inr ⟨j, rfl, ?_⟩
        refine Classical.byContradiction fun q => ?_
        have := hr.1
        rw [gl_not_lose ok h (fun x hx => hx) (gl_le (by omega : j ≤ m) hl.1)] at this
        cases this
    · have h1 := late_lose ok (n := m + 1) h (by omega) hl.2
      refine isRk_unique hr ⟨h1, fun j hj => gl_not_lose ok h (fun x hx => hx) (gl_le (by omega : j ≤ m) hl.1)⟩
/-- not clear: the rank is 0 -/
theorem rank_foul {p : Pl} {a b : Nat} {s : Sit} {r : Option Nat} (hr : IsRk (lose p a b) s r) : r = some 0 ↔ clear p (stands p s) = false := by
  constructor
  · rintro rfl
    have := hr.1
    unfold lose at this
    simpa using this
  · intro h
    refine isRk_unique hr ⟨?_, fun j hj => by omega⟩
    unfold lose
    rw [h]; rfl
end PF
end L2

set_option Elab.async false
set_option linter.all false
namespace L2
namespace PF
theorem findIdx_lt {α : Type} {l : List α} {f : α → Bool} (h : l.any f = true) : ∃ a, l[l.findIdx f]? = some a ∧ f a = true ∧ l.findIdx f < l.length := by
  obtain ⟨x, hx, hf⟩ := List.any_eq_true.mp h
  have hlt : l.findIdx f < l.length := List.findIdx_lt_length_of_exists ⟨x, hx, hf⟩
  exact ⟨l[l.findIdx f], List.getElem?_eq_getElem hlt, List.findIdx_getElem (w := hlt), hlt⟩
theorem bouts_len {p : Pl} {B : Bel} : (bouts p B).length = p.k := by simp [bouts]
theorem bouts_get {p : Pl} {B : Bel} {o : Nat} (h : o < p.k) : (bouts p B)[o]? = some (led p B o) := by
  unfold bouts
  rw [List.getElem?_map, List.getElem?_range h]; rfl
/-- the first of some orders -/
def fo (p : Pl) (f : Bel → Bool) (B : Bel) : Nat := (bouts p B).findIdx f
theorem fo_ok {p : Pl} {f : Bel → Bool} {B : Bel} (h : (bouts p B).any f = true) : fo p f B < p.k ∧ f (led p B (fo p f B)) = true ∧ (bouts p B)[fo p f B]? = some (led p B (fo p f B)) := by
  obtain ⟨C, h1, h2, h3⟩ := findIdx_lt h
  rw [bouts_len] at h3
  have h4 := bouts_get (p := p) (B := B) h3
  rw [h4] at h1
  cases h1
  exact ⟨h3, h2, h4⟩
theorem fo_first {p : Pl} {f : Bel → Bool} {B : Bel} {o : Nat} (h : o < fo p f B) (ho : o < p.k) : f (led p B o) = false := by
  have hlt : o < (bouts p B).length := by rw [bouts_len]; exact ho
  have h1 := List.not_of_lt_findIdx (p := f) (xs := bouts p B) (i := o) h
  have h2 := bouts_get (p := p) (B := B) ho
  rw [List.getElem?_eq_getElem hlt] at h2
  rw [← Option.some.inj h2]
  simpa using h1
theorem fo_congr {p : Pl} {f g : Bel → Bool} {B : Bel} (h : ∀ C ∈ bouts p B, f C = g C) : fo p f B = fo p g B := by
  unfold fo
  generalize bouts p B = l at h
  induction l with
  | nil => rfl
  | cons x l ih =>
    rw [List.findIdx_cons, List.findIdx_cons, h x (by simp), ih fun y hy => h y (by simp [hy])]
/-- the first of the longest rows -/
def bestRow (p : Pl) : Nat → Bel → List Nat
  | 0, _ => []
  | m + 1, B => fo p (gl p m) B :: bestRow p m (led p B (fo p (gl p m) B))
theorem len_bestRow {p : Pl} : ∀ {m : Nat} {B : Bel}, (bestRow p m B).length = m
  | 0, _ => rfl
  | m + 1, B => by simp [bestRow, len_bestRow (m := m)]
theorem any_gl {p : Pl} {m : Nat} {B : Bel} (h : gl p (m + 1) B = true) : (bouts p B).any (gl p m) = true := by
  have : (clear p B && (bouts p B).any fun C => gl p m C) = true := h
  rw [Bool.and_eq_true] at this
  exact this.2
/-- the next belief of a longest row has one order less -/
theorem len_next' {p : Pl} {m : Nat} {B : Bel} (h : Len p B (some (m + 1))) {o : Nat} (ho : o < p.k) (hg : gl p m (led p B o) = true) : Len p (led p B o) (some m) := by
  refine ⟨hg, ?_⟩
  cases q : gl p (m + 1) (led p B o) with
  | false => rfl
  | true =>
    have := gl_step.mpr ⟨gl_clear h.1, o, ho, q⟩
    rw [h.2] at this; cases this
def chainB (p : Pl) : Nat → Bel → List Bel
  | 0, B => [B]
  | m + 1, B => B :: chainB p m (led p B (fo p (gl p m) B))
theorem hasK_next {p : Pl} {B0 B : Bel} {W : List (Bel × List Bel)} (c : BWay p B0 W) (h : hasK W B = true) {o : Nat} (ho : o < p.k) (hc : clear p (led p B o) = true) : hasK W (led p B o) = true := by
  rw [hasK_closed c h (bouts_mem ho)]; exact hc
theorem chain_ok {p : Pl} {B0 : Bel} {W : List (Bel × List Bel)} (c : BWay p B0 W) : ∀ {m : Nat} {B : Bel}, hasK W B = true → Len p B (some m) → (∀ C ∈ chainB p m B, hasK W C = true ∧ ∃ j, j ≤ m ∧ Len p C (some j)) ∧ (chainB p m B).Nodup ∧ (chainB p m B).length = m + 1
  | 0, B, h, hl => by
    refine ⟨?_, by simp [chainB], rfl⟩
    intro C hC
    simp [chainB] at hC
    subst hC
    exact ⟨h, 0, Nat.le_refl _, hl⟩
  | m + 1, B, h, hl => by
    obtain ⟨ho, hg, _⟩ := fo_ok (any_gl hl.1)
    have hn := len_next' hl ho hg
    obtain ⟨h1, h2, h3⟩ := chain_ok c (hasK_next c h ho (gl_clear hg)) hn
    refine ⟨?_, ?_, ?_⟩
    · intro C hC
      rcases List.mem_cons.mp hC with rfl | hC
      · exact ⟨h, m + 1, Nat.le_refl _, hl⟩
      · obtain ⟨a, j, hj, b⟩ := h1 C hC
        exact ⟨a, j, by omega, b⟩
    · unfold chainB
      rw [List.nodup_cons]
      refine ⟨fun hB => ?_, h2⟩
      obtain ⟨_, j, hj, b⟩ := h1 B hB
      have := len_unique hl b
      cases this
      omega
    · unfold chainB
      rw [List.length_cons, h3]
theorem len_lt {p : Pl} (ok : p.Ok) {B0 : Bel} {W : List (Bel × List Bel)} (c : BWay p B0 W) {m : Nat} {B : Bel} (h : hasK W B = true) (hl : Len p B (some m)) : m < 64 := by
  obtain ⟨h1, h2, h3⟩ := chain_ok c h hl
  have := nodup_len (U := W.map (·.1)) h2 fun C hC => hasK_iff.mp (h1 C hC).1
  rw [h3, List.length_map] at this
  have := bways_len ok c
  omega
/-! ### going round -/
/-- orders can be given for ever -/
noncomputable def endB (p : Pl) (B : Bel) : Bool := @decide (Len p B none) (Classical.propDecidable _)
theorem endB_iff {p : Pl} {B : Bel} : endB p B = true ↔ Len p B none := by
  unfold endB
  exact @decide_eq_true_iff _ (Classical.propDecidable _)
noncomputable def ef (p : Pl) (B : Bel) : Nat := fo p (endB p) B
/-- from a belief without end some order leads to one without end -/
theorem end_next {p : Pl} {B : Bel} (h : Len p B none) : (bouts p B).any (endB p) = true := by
  refine Classical.byContradiction fun q => ?_
  have h1 : ∀ C ∈ bouts p B, ∃ n, gl p n C = false := by
    intro C hC
    refine Classical.byContradiction fun r => q (List.any_eq_true.mpr ⟨C, hC, endB_iff.mpr fun n => ?_⟩)
    cases hg : gl p n C with
    | true => rfl
    | false => exact absurd ⟨n, hg⟩ r
  have h2 : ∃ N, ∀ C ∈ bouts p B, gl p N C = false := by
    clear q h
    generalize bouts p B = l at h1
    induction l with
    | nil => exact ⟨0, by simp⟩
    | cons C l ih =>
      obtain ⟨N, hN⟩ := ih fun D hD => h1 D (by simp [hD])
      obtain ⟨n, hn⟩ := h1 C (by simp)
      refine ⟨N + n, fun D hD => ?_⟩
      have key : ∀ E k, gl p k E = false → gl p (N + n) E = false ∨ N + n < k := by
        intro E k hk
        by_cases hh : N + n < k
        · exact .inr hh
        · refine .inl ?_
          cases hg : gl p (N + n) E with
          | false => rfl
          | true =>
            have := gl_le (p := p) (n := k) (m := N + n) (by omega) hg
            rw [hk] at this; cases this
      rcases List.mem_cons.mp hD with rfl | hD
      · exact (key _ n hn).resolve_right (by omega)
      · exact (key _ N (hN D hD)).resolve_right (by omega)
  obtain ⟨N, hN⟩ := h2
  obtain ⟨_, o, ho, hg⟩ := gl_step.mp (h (N + 1))
  rw [hN _ (bouts_mem ho)] at hg
  cases hg
/-- beliefs that are gone through by the first orders without end -/
inductive Trace (p : Pl) (B0 : Bel) : List Nat → List Bel → Bel → Prop
  | nil : Trace p B0 [] [] B0
  | snoc {row : List Nat} {met : List Bel} {B : Bel} : Trace p B0 row met B → Trace p B0 (row ++ [ef p B]) (met ++ [B]) (led p B (ef p B))
theorem Trace.len {p : Pl} {B0 B : Bel} {row : List Nat} {met : List Bel} (t : Trace p B0 row met B) : row.length = met.length := by
  induction t with
  | nil => rfl
  | snoc _ ih => simp [ih]
/-- the row ahead of the ring, and the ring -/
structure RingOk (p : Pl) (B0 : Bel) (row ring : List Nat) : Prop where
  ex : ∃ met B, Trace p B0 (row ++ ring) met B ∧ met.Nodup ∧ met[row.length]? = some B
/-- an order in a belief without end: by what was found -/
theorem endB_eq {p : Pl} {B0 B : Bel} {W : List (Bel × List Bel)} {L : List (Bel × Nat)} (c : BWay p B0 W) (hL : ∀ B, hasK W B = true → Len p B (L.lookup B)) (hW : hasK W B = true) {C : Bel} (hC : C ∈ bouts p B) : (hasK W C && !hasK L C) = endB p C := by
  rw [Bool.eq_iff_iff, Bool.and_eq_true, Bool.not_eq_true', endB_iff]
  constructor
  · rintro ⟨h1, h2⟩
    have := hL C h1
    unfold hasK at h2
    cases hq : L.lookup C with
    | none => rw [hq] at this; exact this
    | some m => rw [hq] at h2; cases h2
  · intro h
    have h1 : hasK W C = true := by
      rw [hasK_closed c hW hC]
      exact h 0
    refine ⟨h1, ?_⟩
    have := len_unique (hL C h1) h
    unfold hasK
    rw [this]; rfl
/-- the same for rows -/
theorem best_eq {p : Pl} {B0 B : Bel} {W : List (Bel × List Bel)} {L : List (Bel × Nat)} (c : BWay p B0 W) (hL : ∀ B, hasK W B = true → Len p B (L.lookup B)) (hW : hasK W B = true) {m : Nat} (hm : Len p B (some (m + 1))) {C : Bel} (hC : C ∈ bouts p B) :
    (hasK W C = true → ∃ j, L.lookup C = some j) ∧ (hasK W C && (L.lookup C == some m)) = gl p m C := by
  obtain ⟨o, ho, rfl⟩ := mem_bouts hC
  have up : gl p (m + 1) (led p B o) = false := by
    cases q : gl p (m + 1) (led p B o) with
    | false => rfl
    | true =>
      have := gl_step.mpr ⟨gl_clear hm.1, o, ho, q⟩
      rw [hm.2] at this; cases this
  have h1 : hasK W (led p B o) = true → ∃ j, L.lookup (led p B o) = some j := by
    intro h
    have := hL _ h
    cases hq : L.lookup (led p B o) with
    | some j => exact ⟨j, rfl⟩
    | none =>
      rw [hq] at this
      rw [this (m + 1)] at up
      cases up
  refine ⟨h1, ?_⟩
  rw [Bool.eq_iff_iff, Bool.and_eq_true, beq_iff_eq]
  constructor
  · rintro ⟨a, b⟩
    have := hL _ a
    rw [b] at this
    exact this.1
  · intro h
    have a := hasK_next c hW ho (gl_clear h)
    exact ⟨a, len_unique (hL _ a) ⟨h, up⟩⟩
end PF
end L2

set_option Elab.async false
set_option linter.all false
namespace L2
namespace PF
/-- the beliefs that are gone through -/
def trail (p : Pl) (B : Bel) (row : List Nat) : List Bel := (List.range (row.length + 1)).map fun i => after p B (row.take i)
theorem trail_nil {p : Pl} {B : Bel} : trail p B [] = [B] := rfl
theorem trail_snoc {p : Pl} {B : Bel} {row : List Nat} {o : Nat} : trail p B (row ++ [o]) = trail p B row ++ [led p (after p B row) o] := by
  unfold trail
  have e : (row ++ [o]).length + 1 = (row.length + 1) + 1 := by simp
  rw [e, List.range_succ, List.map_append]
  congr 1
  · apply List.map_congr_left
    intro i hi
    have hi : i < row.length + 1 := by simpa using hi
    rw [List.take_append_of_le_length (by omega)]
  · have : (row ++ [o]).take (row.length + 1) = row ++ [o] := List.take_of_length_le (by simp)
    rw [List.map_cons, List.map_nil, this, after_app]; rfl
theorem len_trail {p : Pl} {B : Bel} {row : List Nat} : (trail p B row).length = row.length + 1 := by simp [trail]
theorem trail_get {p : Pl} {B : Bel} {row : List Nat} {i : Nat} (h : i ≤ row.length) : (trail p B row)[i]? = some (after p B (row.take i)) := by
  unfold trail
  rw [List.getElem?_map, List.getElem?_range (by omega)]; rfl
theorem trail_cons {p : Pl} {B : Bel} {o : Nat} {row : List Nat} : trail p B (o :: row) = B :: trail p (led p B o) row := by
  unfold trail
  rw [List.length_cons, List.range_succ_eq_map, List.map_cons, List.map_map]
  congr 1
theorem clear_best {p : Pl} : ∀ {m : Nat} {B : Bel}, gl p m B = true → (trail p B (bestRow p m B)).all (clear p) = true
  | 0, B, h => by
    rw [bestRow, trail_nil]
    simpa using gl_clear h
  | m + 1, B, h => by
    obtain ⟨ho, hg, _⟩ := fo_ok (any_gl h)
    rw [bestRow, trail_cons, List.all_cons, gl_clear h, clear_best hg]; rfl
theorem best_orders {p : Pl} : ∀ {m : Nat} {B : Bel}, gl p m B = true → ∀ o ∈ bestRow p m B, o < p.k
  | 0, _, _ => by simp [bestRow]
  | m + 1, B, h => by
    obtain ⟨ho, hg, _⟩ := fo_ok (any_gl h)
    intro o hm
    rw [bestRow] at hm
    rcases List.mem_cons.mp hm with rfl | hm
    · exact ho
    · exact best_orders hg o hm
theorem ef_ok {p : Pl} {B : Bel} (h : Len p B none) : ef p B < p.k ∧ Len p (led p B (ef p B)) none := by
  obtain ⟨ho, hg, _⟩ := fo_ok (end_next h)
  exact ⟨ho, endB_iff.mp hg⟩
structure TraceOk (p : Pl) (B0 : Bel) (rr : List Nat) (met : List Bel) (B : Bel) : Prop where
  aft : after p B0 rr = B
  tr : trail p B0 rr = met ++ [B]
  ks : ∀ o ∈ rr, o < p.k
  en : Len p B none
  ens : ∀ C ∈ met, Len p C none
theorem Trace.ok {p : Pl} {B0 B : Bel} {rr : List Nat} {met : List Bel} (t : Trace p B0 rr met B) (h : Len p B0 none) : TraceOk p B0 rr met B := by
  induction t with
  | nil => exact ⟨rfl, rfl, by simp, h, by simp⟩
  | @snoc row met B t ih =>
    obtain ⟨ho, he⟩ := ef_ok ih.en
    refine ⟨?_, ?_, ?_, he, ?_⟩
    · rw [after_app, ih.aft]; rfl
    · rw [trail_snoc, ih.tr, ih.aft]
    · intro o hm
      rcases List.mem_append.mp hm with hm | hm
      · exact ih.ks o hm
      · simp at hm; subst hm; exact ho
    · intro C hC
      rcases List.mem_append.mp hC with hC | hC
      · exact ih.ens C hC
      · simp at hC; subst hC; exact ih.en
/-- the same way, by how many steps -/
noncomputable def way (p : Pl) : Nat → Bel → Bel
  | 0, B => B
  | n + 1, B => way p n (led p B (ef p B))
noncomputable def wayR (p : Pl) : Nat → Bel → List Nat
  | 0, _ => []
  | n + 1, B => ef p B :: wayR p n (led p B (ef p B))
noncomputable def wayM (p : Pl) : Nat → Bel → List Bel
  | 0, _ => []
  | n + 1, B => B :: wayM p n (led p B (ef p B))
theorem way_snoc {p : Pl} : ∀ {n : Nat} {B : Bel}, way p (n + 1) B = led p (way p n B) (ef p (way p n B)) ∧ wayR p (n + 1) B = wayR p n B ++ [ef p (way p n B)] ∧ wayM p (n + 1) B = wayM p n B ++ [way p n B]
  | 0, _ => ⟨rfl, rfl, rfl⟩
  | n + 1, B => by
    obtain ⟨a, b, c⟩ := way_snoc (n := n) (B := led p B (ef p B))
    refine ⟨a, ?_, ?_⟩
    · show ef p B :: wayR p (n + 1) (led p B (ef p B)) = _
      rw [b]; rfl
    · show B :: wayM p (n + 1) (led p B (ef p B)) = _
      rw [c]; rfl
theorem Trace.way {p : Pl} {B0 B : Bel} {rr : List Nat} {met : List Bel} (t : Trace p B0 rr met B) : rr = wayR p rr.length B0 ∧ met = wayM p rr.length B0 ∧ B = way p rr.length B0 := by
  induction t with
  | nil => exact ⟨rfl, rfl, rfl⟩
  | @snoc row met B t ih =>
    obtain ⟨a, b, c⟩ := way_snoc (p := p) (n := row.length) (B := B0)
    have e : (row ++ [ef p B]).length = row.length + 1 := by simp
    rw [e]
    refine ⟨?_, ?_, ?_⟩
    · rw [b, ← ih.2.2, ← ih.1]
    · rw [c, ← ih.2.2, ← ih.2.1]
    · rw [a, ← ih.2.2]
theorem trace_of {p : Pl} {B0 : Bel} : ∀ n, Trace p B0 (wayR p n B0) (wayM p n B0) (way p n B0)
  | 0 => .nil
  | n + 1 => by
    obtain ⟨a, b, c⟩ := way_snoc (p := p) (n := n) (B := B0)
    rw [a, b, c]
    exact .snoc (trace_of n)
theorem len_wayR {p : Pl} : ∀ {n : Nat} {B : Bel}, (wayR p n B).length = n
  | 0, _ => rfl
  | n + 1, B => by simp [wayR, len_wayR (n := n)]
theorem len_wayM {p : Pl} : ∀ {n : Nat} {B : Bel}, (wayM p n B).length = n
  | 0, _ => rfl
  | n + 1, B => by simp [wayM, len_wayM (n := n)]
theorem wayM_get {p : Pl} : ∀ {n i : Nat} {B : Bel}, i < n → (wayM p n B)[i]? = some (way p i B)
  | 0, _, _, h => by omega
  | n + 1, 0, B, _ => rfl
  | n + 1, i + 1, B, h => by
    show (wayM p n (led p B (ef p B)))[i]? = _
    rw [wayM_get (by omega)]; rfl
/-- a row and a ring, by numbers: the first time that a belief comes again -/
theorem ring_num {p : Pl} {B0 : Bel} {row ring : List Nat} (r : RingOk p B0 row ring) : row ++ ring = wayR p (row.length + ring.length) B0 ∧ row.length < row.length + ring.length ∧ way p row.length B0 = way p (row.length + ring.length) B0 ∧
    ∀ i j, i < row.length + ring.length → j < row.length + ring.length → way p i B0 = way p j B0 → i = j := by
  obtain ⟨met, B, t, nd, hg⟩ := r.ex
  obtain ⟨a, b, c⟩ := t.way
  rw [List.length_append] at a b c
  have hlt : row.length < row.length + ring.length := by
    have := (List.getElem?_eq_some_iff.mp hg).1
    have hl := t.len
    rw [List.length_append] at hl
    omega
  refine ⟨a, hlt, ?_, ?_⟩
  · rw [b, wayM_get hlt] at hg
    rw [← c]
    exact Option.some.inj hg
  · intro i j hi hj e
    rw [b] at nd
    have hi' : i < (wayM p (row.length + ring.length) B0).length := by rw [len_wayM]; exact hi
    have hj' : j < (wayM p (row.length + ring.length) B0).length := by rw [len_wayM]; exact hj
    have e1 := wayM_get (p := p) (B := B0) hi
    have e2 := wayM_get (p := p) (B := B0) hj
    rw [List.getElem?_eq_getElem hi'] at e1
    rw [List.getElem?_eq_getElem hj'] at e2
    have pw := List.pairwise_iff_getElem.mp nd
    have e3 : (wayM p (row.length + ring.length) B0)[i] = (wayM p (row.length + ring.length) B0)[j] := by rw [Option.some.inj e1, Option.some.inj e2, e]
    refine Classical.byContradiction fun q => ?_
    by_cases h : i < j
    · exact pw i j hi' hj' h e3
    · exact pw j i hj' hi' (by omega) e3.symm
theorem ring_unique {p : Pl} {B0 : Bel} {row ring row' ring' : List Nat} (r : RingOk p B0 row ring) (r' : RingOk p B0 row' ring') : row = row' ∧ ring = ring' := by
  obtain ⟨a, b, c, d⟩ := ring_num r
  obtain ⟨a', b', c', d'⟩ := ring_num r'
  have h1 : row.length + ring.length = row'.length + ring'.length := by
    refine Classical.byContradiction fun q => ?_
    by_cases h : row.length + ring.length < row'.length + ring'.length
    · have := d' row.length (row.length + ring.length) (by omega) h c
      omega
    · have := d row'.length (row'.length + ring'.length) (by omega) (by omega) c'
      omega
  have h2 : row.length = row'.length := by
    rw [h1] at c d
    exact d _ _ (by omega) (by omega) (c.trans c'.symm)
  rw [h1] at a
  have h3 := a.trans a'.symm
  exact List.append_inj h3 h2
/-- what is left behind the first order -/
theorem ring_tail {p : Pl} {B0 : Bel} {row ring : List Nat} (r : RingOk p B0 row ring) : ∃ o rr, row ++ ring = o :: rr ∧ o = ef p B0 ∧
    ((∃ row', row = o :: row' ∧ RingOk p (led p B0 o) row' ring) ∨ (row = [] ∧ ∃ ring', ring = o :: ring' ∧ RingOk p (led p B0 o) [] (ring' ++ [o]))) := by
  obtain ⟨a, b, c, d⟩ := ring_num r
  have hw : ∀ n, way p (n + 1) B0 = way p n (led p B0 (ef p B0)) := fun n => rfl
  have mk : ∀ (row' ring' : List Nat), row' ++ ring' = wayR p (row'.length + ring'.length) (led p B0 (ef p B0)) → row'.length < row'.length + ring'.length → way p row'.length (led p B0 (ef p B0)) = way p (row'.length + ring'.length) (led p B0 (ef p B0)) →
      (∀ i j, i < row'.length + ring'.length → j < row'.length + ring'.length → way p i (led p B0 (ef p B0)) = way p j (led p B0 (ef p B0)) → i = j) → RingOk p (led p B0 (ef p B0)) row' ring' := by
    intro row' ring' h1 h2 h3 h4
    refine ⟨wayM p (row'.length + ring'.length) (led p B0 (ef p B0)), way p (row'.length + ring'.length) (led p B0 (ef p B0)), by rw [h1]; exact trace_of _, ?_, ?_⟩
    · rw [List.nodup_iff_pairwise_ne, List.pairwise_iff_getElem]
      intro i j hi hj hij e
      rw [len_wayM] at hi hj
      have e1 := wayM_get (p := p) (B := led p B0 (ef p B0)) hi
      have e2 := wayM_get (p := p) (B := led p B0 (ef p B0)) hj
      rw [List.getElem?_eq_getElem (by rw [len_wayM]; exact hi)] at e1
      rw [List.getElem?_eq_getElem (by rw [len_wayM]; exact hj)] at e2
      have := h4 i j hi hj (by rw [← Option.some.inj e1, ← Option.some.inj e2, e])
      omega
    · rw [wayM_get h2, h3]
  cases hn : row.length + ring.length with
  | zero => omega
  | succ n =>
    rw [hn] at a
    refine ⟨ef p B0, wayR p n (led p B0 (ef p B0)), a, rfl, ?_⟩
    cases row with
    | cons o row' =>
      have ea : o :: (row' ++ ring) = ef p B0 :: wayR p n (led p B0 (ef p B0)) := a
      injection ea with e1 e2
      subst e1
      refine .inl ⟨row', rfl, mk row' ring ?_ ?_ ?_ ?_⟩
      · rw [e2]; congr 1; simp at hn; omega
      · simp at b; omega
      · have h1 : way p (row'.length + 1) B0 = way p (row'.length + 1 + ring.length) B0 := c
        rw [show row'.length + 1 + ring.length = (row'.length + ring.length) + 1 by omega, hw, hw] at h1
        exact h1
      · intro i j hi hj e
        have := d (i + 1) (j + 1) (by simp; omega) (by simp; omega) (by rw [hw, hw]; exact e)
        omega
    | nil =>
      cases ring with
      | nil => simp at b
      | cons o ring' =>
        have ea : o :: ring' = ef p B0 :: wayR p n (led p B0 (ef p B0)) := a
        injection ea with e1 e2
        subst e1
        have hl : ring'.length = n := by simpa using hn
        have c' : B0 = way p (n + 1) B0 := by
          have : way p 0 B0 = way p (0 + (ring'.length + 1)) B0 := c
          rw [hl, Nat.zero_add] at this
          exact this
        refine .inr ⟨rfl, ring', rfl, mk [] (ring' ++ [ef p B0]) ?_ ?_ ?_ ?_⟩
        · have e3 : ([] : List Nat).length + (ring' ++ [ef p B0]).length = n + 1 := by simp [hl]
          rw [e3, (way_snoc (p := p) (n := n) (B := led p B0 (ef p B0))).2.1, ← e2, ← hw n, ← c']
          rfl
        · simp
        · have e3 : ([] : List Nat).length + (ring' ++ [ef p B0]).length = n + 1 := by simp [hl]
          rw [e3]
          show way p 1 B0 = way p (n + 1 + 1) B0
          have : way p (n + 1 + 1) B0 = led p (way p (n + 1) B0) (ef p (way p (n + 1) B0)) := (way_snoc (p := p) (n := n + 1) (B := B0)).1
          rw [this, ← c']; rfl
        · intro i j hi hj e
          have e3 : ([] : List Nat).length + (ring' ++ [ef p B0]).length = n + 1 := by simp [hl]
          rw [e3] at hi hj
          rw [← hw, ← hw] at e
          -- the way of the ring: turn the last one to the first
          have hd : ∀ k, k < n + 1 → way p (k + 1) B0 = way p (if k = n then 0 else k + 1) B0 := by
            intro k hk
            by_cases q : k = n
            · rw [if_pos q, q, ← c']; rfl
            · rw [if_neg q]
          rw [hd i hi, hd j hj] at e
          have := d _ _ (by simp; split <;> omega) (by simp; split <;> omega) e
          split at this <;> split at this <;> omega
end PF
end L2

set_option Elab.async false
set_option linter.all false
namespace L2
namespace PF
/-! ### the law's own ways -/
def insN (x : Nat) : List Nat → List Nat
  | [] => [x]
  | y :: ys => if x ≤ y then x :: y :: ys else y :: insN x ys
def sortN : List Nat → List Nat
  | [] => []
  | x :: xs => insN x (sortN xs)
theorem insN_eq {x : Nat} : ∀ {l : List Nat}, x ∉ l → insN x l = insU x l
  | [], _ => rfl
  | y :: ys, h => by
    have h1 : x ≠ y := fun e => h (by simp [e])
    have h2 : x ∉ ys := fun e => h (by simp [e])
    unfold insN insU
    by_cases q : x < y
    · rw [if_pos (by omega), if_pos q]
    · rw [if_neg (by omega), if_neg q, if_neg h1, insN_eq h2]
theorem sortN_eq : ∀ {l : List Nat}, l.Nodup → sortN l = sortU l
  | [], _ => rfl
  | x :: xs, h => by
    rw [List.nodup_cons] at h
    unfold sortN sortU
    rw [sortN_eq h.2, insN_eq (fun q => h.1 (mem_sortU.mp q))]
/-- what the law gathers, place by place -/
def gath (p : Pl) (o : Nat) (found : List Nat) (x : Nat) : List Nat := found ++ (ans p x o).filter fun y => !found.contains y
theorem gath_ok {p : Pl} (ok : p.Ok) {o : Nat} (ho : o < p.k) : ∀ {ps found : List Nat}, (∀ x ∈ ps, x < p.n) → found.Nodup → (ps.foldl (gath p o) found).Nodup ∧ ∀ y, y ∈ ps.foldl (gath p o) found ↔ y ∈ found ∨ ∃ x ∈ ps, y ∈ ans p x o
  | [], found, _, h => ⟨h, fun y => by simp⟩
  | x :: ps, found, hp, h => by
    have ha := ans_ok ok (hp x (by simp)) ho
    have hn : (gath p o found x).Nodup := by
      unfold gath
      rw [List.nodup_append]
      refine ⟨h, (ha.2.1.imp fun q => Nat.ne_of_lt q).filter _, ?_⟩
      intro a h1 b h2
      rintro rfl
      have := (List.mem_filter.mp h2).2
      simp at this
      exact this h1
    obtain ⟨i1, i2⟩ := gath_ok ok ho (ps := ps) (found := gath p o found x) (fun y hy => hp y (by simp [hy])) hn
    refine ⟨i1, fun y => ?_⟩
    rw [List.foldl_cons, i2]
    have e : y ∈ gath p o found x ↔ y ∈ found ∨ y ∈ ans p x o := by
      unfold gath
      rw [List.mem_append, List.mem_filter]
      constructor
      · rintro (q | ⟨q, _⟩)
        · exact .inl q
        · exact .inr q
      · rintro (q | q)
        · exact .inl q
        · by_cases hf : y ∈ found
          · exact .inl hf
          · exact .inr ⟨q, by simpa using hf⟩
    rw [e]
    constructor
    · rintro ((q | q) | ⟨z, hz, q⟩)
      · exact .inl q
      · exact .inr ⟨x, by simp, q⟩
      · exact .inr ⟨z, by simp [hz], q⟩
    · rintro (q | ⟨z, hz, q⟩)
      · exact .inl (.inl q)
      · rcases List.mem_cons.mp hz with rfl | hz
        · exact .inl (.inr q)
        · exact .inr ⟨z, hz, q⟩
theorem gath_led {p : Pl} (ok : p.Ok) {o : Nat} (ho : o < p.k) {ps : List Nat} (hp : ∀ x ∈ ps, x < p.n) : sortN (ps.foldl (gath p o) []) = led p ps o ∧ (ps.foldl (gath p o) []).length ≤ 6 := by
  obtain ⟨a, b⟩ := gath_ok ok ho hp (found := []) (by simp)
  have e : sortN (ps.foldl (gath p o) []) = led p ps o := by
    rw [sortN_eq a]
    refine asc_ext asc_sortU asc_led fun y => ?_
    rw [mem_sortU, b, mem_led]
    simp
  refine ⟨e, ?_⟩
  have h6 : p.n ≤ 6 := ok.n6
  have := nodup_len (U := List.range p.n) a fun y hy => by
    rcases (b y).mp hy with q | ⟨x, hx, q⟩
    · simp at q
    · simpa using (ans_ok ok (hp x hx) ho).2.2 y q
  rw [List.length_range] at this
  omega
/-! ### those without end -/
theorem filt_len {α : Type} {f g : α → Bool} : ∀ {l : List α}, (∀ x ∈ l, f x = true → g x = true) → (l.filter f).length ≤ (l.filter g).length ∧ ((l.filter f).length = (l.filter g).length → ∀ x ∈ l, g x = true → f x = true)
  | [], _ => ⟨by simp, by simp⟩
  | x :: l, h => by
    obtain ⟨a, b⟩ := filt_len (l := l) fun y hy => h y (by simp [hy])
    cases hf : f x with
    | true =>
      have hg := h x (by simp) hf
      rw [List.filter_cons_of_pos hf, List.filter_cons_of_pos hg, List.length_cons, List.length_cons]
      refine ⟨by omega, fun e y hy q => ?_⟩
      rcases List.mem_cons.mp hy with rfl | hy
      · exact hf
      · exact b (by omega) y hy q
    | false =>
      rw [List.filter_cons_of_neg (by rw [hf]; simp)]
      cases hg : g x with
      | true =>
        rw [List.filter_cons_of_pos hg, List.length_cons]
        exact ⟨by omega, fun e => by omega⟩
      | false =>
        rw [List.filter_cons_of_neg (by rw [hg]; simp)]
        refine ⟨a, fun e y hy q => ?_⟩
        rcases List.mem_cons.mp hy with rfl | hy
        · rw [hg] at q; cases q
        · exact b e y hy q
/-- one round: those with a later one among what is left -/
def stillP (W : List (Bel × List Bel)) (left : List Bel) : List Bel := left.filter fun B => ((W.lookup B).getD []).any fun C => left.contains C
section
variable {p : Pl} {B0 : Bel} {W : List (Bel × List Bel)} (c : BWay p B0 W)
include c
theorem still_eq (n : Nat) : stillP W ((W.map (·.1)).filter (gl p n)) = (W.map (·.1)).filter (gl p (n + 1)) := by
  unfold stillP
  rw [List.filter_filter]
  apply List.filter_congr
  intro B hB
  have hW := hasK_iff.mpr hB
  rw [look_way c hW, Option.getD_some, Bool.eq_iff_iff, Bool.and_eq_true, List.any_eq_true]
  constructor
  · rintro ⟨⟨C, hC, h2⟩, h1⟩
    have h2 : C ∈ (W.map (·.1)).filter (gl p n) := by simpa using h2
    obtain ⟨o, ho, rfl⟩ := mem_bouts hC
    exact gl_step.mpr ⟨gl_clear h1, o, ho, (List.mem_filter.mp h2).2⟩
  · intro h
    obtain ⟨h1, o, ho, h2⟩ := gl_step.mp h
    refine ⟨⟨_, bouts_mem ho, ?_⟩, gl_pred h⟩
    have : led p B o ∈ (W.map (·.1)).filter (gl p n) := List.mem_filter.mpr ⟨hasK_iff.mp (hasK_next c hW ho (gl_clear h2)), h2⟩
    simpa using this
theorem still_end {n : Nat} (h : ((W.map (·.1)).filter (gl p (n + 1))).length = ((W.map (·.1)).filter (gl p n)).length) : (W.map (·.1)).filter (gl p n) = (W.map (·.1)).filter (endB p) := by
  have h1 := (filt_len (l := W.map (·.1)) (f := gl p (n + 1)) (g := gl p n) fun x _ q => gl_pred q).2 h
  have key : ∀ m, n ≤ m → ∀ B ∈ W.map (·.1), gl p n B = true → gl p m B = true := by
    intro m hm
    induction hm with
    | refl => exact fun _ _ q => q
    | @step m hm ih =>
      intro B hB q
      have hW := hasK_iff.mpr hB
      obtain ⟨a, o, ho, b⟩ := gl_step.mp (h1 B hB q)
      exact gl_step.mpr ⟨a, o, ho, ih _ (hasK_iff.mp (hasK_next c hW ho (gl_clear b))) b⟩
  apply List.filter_congr
  intro B hB
  rw [Bool.eq_iff_iff, endB_iff]
  constructor
  · intro q m
    by_cases hm : n ≤ m
    · exact key m hm B hB q
    · exact gl_le (by omega) q
  · intro q; exact q n
theorem still_0 : W.map (·.1) = (W.map (·.1)).filter (gl p 0) := by
  symm
  rw [List.filter_eq_self]
  intro B hB
  exact hasK_clear c (hasK_iff.mpr hB)
theorem end_mem {B : Bel} (hW : hasK W B = true) : ((W.map (·.1)).filter (endB p)).contains B = endB p B := by
  rw [Bool.eq_iff_iff]
  have h1 : B ∈ W.map (·.1) := hasK_iff.mp hW
  constructor
  · intro h
    have : B ∈ (W.map (·.1)).filter (endB p) := by simpa using h
    exact (List.mem_filter.mp this).2
  · intro h
    have : B ∈ (W.map (·.1)).filter (endB p) := List.mem_filter.mpr ⟨h1, h⟩
    simpa using this
theorem end_bout {B : Bel} (hW : hasK W B = true) {C : Bel} (hC : C ∈ bouts p B) : ((W.map (·.1)).filter (endB p)).contains C = endB p C := by
  cases hk : hasK W C with
  | true => exact end_mem c hk
  | false =>
    have h1 : endB p C = false := by
      cases q : endB p C with
      | false => rfl
      | true =>
        have := endB_iff.mp q 0
        rw [hasK_closed c hW hC] at hk
        rw [show gl p 0 C = clear p C from rfl, hk] at this
        cases this
    rw [h1]
    cases q : ((W.map (·.1)).filter (endB p)).contains C with
    | false => rfl
    | true =>
      have : C ∈ (W.map (·.1)).filter (endB p) := by simpa using q
      rw [hasK_iff.mpr (List.mem_filter.mp this).1] at hk
      cases hk
/-! ### the longest rows -/
/-- a clear belief whose clear later ones all end ends -/
theorem len_all {B : Bel} (hW : hasK W B = true) (h : ∀ C ∈ bouts p B, hasK W C = true → ∃ j, Len p C (some j)) {r : Option Nat} (hr : Len p B r) : ∃ m, r = some m := by
  cases r with
  | some m => exact ⟨m, rfl⟩
  | none =>
    exfalso
    obtain ⟨C, hC, hg⟩ := List.any_eq_true.mp (end_next hr)
    have he := endB_iff.mp hg
    obtain ⟨j, hj⟩ := h C hC (by rw [hasK_closed c hW hC]; exact he 0)
    have := len_unique he hj
    cases this
/-- the rows of the later ones, and the longest of them -/
theorem best_first {B : Bel} (hW : hasK W B = true) {m : Nat} (hm : Len p B (some m)) :
    (∀ C ∈ bouts p B, hasK W C = true → ∃ j, j < m ∧ Len p C (some j)) ∧ (m = 0 → ∀ C ∈ bouts p B, hasK W C = false) := by
  have h1 : ∀ C ∈ bouts p B, hasK W C = true → gl p m C = false := by
    intro C hC _
    obtain ⟨o, ho, rfl⟩ := mem_bouts hC
    cases q : gl p m (led p B o) with
    | false => rfl
    | true =>
      have := gl_step.mpr ⟨hasK_clear c hW, o, ho, q⟩
      rw [hm.2] at this; cases this
  obtain ⟨L, _, _, _, hL⟩ : ∃ L : List (Bel × Nat), True ∧ True ∧ True ∧ ∀ C ∈ bouts p B, hasK W C = true → ∃ r, Len p C r := by
    refine ⟨[], trivial, trivial, trivial, fun C hC hk => ?_⟩
    -- the first number of orders that can't be given
    have hz := h1 C hC hk
    have : ∃ j, gl p j C = true ∧ gl p (j + 1) C = false := by
      have hc : gl p 0 C = true := hasK_clear c hk
      have : ∀ i, gl p i C = false → ∃ j, gl p j C = true ∧ gl p (j + 1) C = false := by
        intro i
        induction i with
        | zero => intro q; rw [hc] at q; cases q
        | succ i ih =>
          intro q
          cases h : gl p i C with
          | true => exact ⟨i, h, q⟩
          | false => exact ih h
      exact this m hz
    obtain ⟨j, a, b⟩ := this
    exact ⟨some j, a, b⟩
  refine ⟨fun C hC hk => ?_, fun h0 C hC => ?_⟩
  · obtain ⟨r, hr⟩ := hL C hC hk
    have hz := h1 C hC hk
    cases r with
    | none => rw [hr m] at hz; cases hz
    | some j =>
      refine ⟨j, ?_, hr⟩
      refine Classical.byContradiction fun q => ?_
      rw [gl_le (by omega : m ≤ j) hr.1] at hz
      cases hz
  · cases hk : hasK W C with
    | false => rfl
    | true =>
      have hz := h1 C hC hk
      rw [h0] at hz
      have : clear p C = true := hasK_clear c hk
      rw [show gl p 0 C = clear p C from rfl, this] at hz
      cases hz
end
end PF
end L2

set_option Elab.async false
set_option linter.all false
namespace L2
namespace PF
/-! ### what is heard -/
theorem len_dueIn {p : Pl} {a : Nat} {s : Sit} {o : Nat} (h : a ≤ s.2.length) : (dueIn a p (s.1, s.2 ++ [o])) = (after p [s.1] ((s.2 ++ [o]).take (s.2.length + 1 - a)), (s.2 ++ [o]).drop (s.2.length + 1 - a)) := by
  unfold dueIn
  have hl : (s.2 ++ [o]).length = s.2.length + 1 := by simp
  simp only [hl]
  rw [if_neg (by omega)]
section
variable {p : Pl} (ok : p.Ok) {a b : Nat} {s : Sit} {o : Nat} (h : SOk p (a + b) s) (ho : o < p.k)
include ok h ho
/-- one that is heard -/
theorem heard {t : Sit} (ht : t ∈ nextIn a b p s o) (hn : t ≠ (s.1, s.2 ++ [o])) : t.2.length = a ∧ t.1 ∈ after p [s.1] ((s.2 ++ [o]).take ((s.2 ++ [o]).length - t.2.length)) ∧ t.2 = (s.2 ++ [o]).drop ((s.2 ++ [o]).length - t.2.length) := by
  have hl : (s.2 ++ [o]).length = s.2.length + 1 := by simp
  rcases (mem_next ok h ho).mp ht with ⟨_, e⟩ | ⟨q, ⟨q1, q2⟩ | ⟨_, e⟩⟩
  · exact absurd e hn
  · have e : t.2.length = a := by rw [q2]; simp; omega
    rw [e, hl]
    exact ⟨rfl, q1, q2⟩
  · exact absurd e hn
/-- all together -/
theorem heard_all {y : Nat} : (∃ t ∈ nextIn a b p s o, y ∈ stands p t) ↔ y ∈ after p [s.1] (s.2 ++ [o]) := by
  constructor
  · rintro ⟨t, ht, hy⟩
    have := next_sub ok h ho ht y hy
    have e : led p (stands p s) o = after p [s.1] (s.2 ++ [o]) := by
      unfold stands
      rw [after_app]; rfl
    rwa [e] at this
  · intro hy
    by_cases hc : s.2.length + 1 ≤ a
    · exact ⟨_, (mem_next ok h ho).mpr (.inl ⟨hc, rfl⟩), hy⟩
    · rw [← List.take_append_drop (s.2.length + 1 - a) (s.2 ++ [o])] at hy
      obtain ⟨q, h1, h2⟩ := path.mp hy
      exact ⟨(q, (s.2 ++ [o]).drop (s.2.length + 1 - a)), (mem_next ok h ho).mpr (.inr ⟨by omega, .inl ⟨h1, rfl⟩⟩), h2⟩
/-- one loss more: the same ones, and perhaps that nothing is heard -/
theorem more_sub {t : Sit} (ht : t ∈ nextIn a b p s o) : t ∈ nextIn a (b + 1) p s o := by
  have h' : SOk p (a + (b + 1)) s := ⟨h.at_, by have := h.len; omega, h.row⟩
  rcases (mem_next ok h ho).mp ht with q | ⟨q, q1 | ⟨q1, e⟩⟩
  · exact (mem_next ok h' ho).mpr (.inl q)
  · exact (mem_next ok h' ho).mpr (.inr ⟨q, .inl q1⟩)
  · exact (mem_next ok h' ho).mpr (.inr ⟨q, .inr ⟨by omega, e⟩⟩)
theorem more_new {t : Sit} (ht : t ∈ nextIn a (b + 1) p s o) (hn : t ∉ nextIn a b p s o) : t = (s.1, s.2 ++ [o]) := by
  have h' : SOk p (a + (b + 1)) s := ⟨h.at_, by have := h.len; omega, h.row⟩
  rcases (mem_next ok h' ho).mp ht with q | ⟨q, q1 | ⟨q1, e⟩⟩
  · exact q.2
  · exact absurd ((mem_next ok h ho).mpr (.inr ⟨q, .inl q1⟩)) hn
  · exact e
end
theorem nodup_insS {x : Sit} : ∀ {l : List Sit}, l.Nodup → x ∉ l → (insS x l).Nodup
  | [], _, _ => by simp [insS]
  | y :: l, h, hx => by
    rw [List.nodup_cons] at h
    unfold insS
    split
    · exact List.nodup_cons.mpr ⟨hx, List.nodup_cons.mpr h⟩
    · refine List.nodup_cons.mpr ⟨fun q => ?_, nodup_insS h.2 fun q => hx (by simp [q])⟩
      rcases mem_insS.mp q with rfl | q
      · exact hx (by simp)
      · exact h.1 q
theorem nodup_sortS : ∀ {l : List Sit}, l.Nodup → (sortS l).Nodup
  | [], _ => by simp [sortS]
  | x :: l, h => by
    rw [List.nodup_cons] at h
    exact nodup_insS (nodup_sortS h.2) fun q => h.1 (mem_sortS.mp q)
theorem nodup_next {p : Pl} {a b : Nat} {s : Sit} {o : Nat} : (nextIn a b p s o).Nodup := by
  unfold nextIn
  split
  · simp
  · rename_i hne
    refine nodup_sortS ?_
    have hd : (dueIn a p (s.1, s.2 ++ [o])).1.Pairwise (· < ·) ∧ (dueIn a p (s.1, s.2 ++ [o])).2.length < (s.2 ++ [o]).length := by
      unfold dueIn at hne ⊢
      split at hne
      · exact absurd rfl hne
      · rename_i hc
        rw [if_neg hc]
        refine ⟨asc_after (by simp), ?_⟩
        simp at hc ⊢
        omega
    rw [List.nodup_append]
    refine ⟨?_, by split <;> simp, ?_⟩
    · refine List.Pairwise.map _ ?_ hd.1
      intro x y hxy e
      have := congrArg Prod.fst e
      simp at this
      omega
    · intro x hx y hy
      split at hy
      · simp at hy
        subst hy
        obtain ⟨z, _, rfl⟩ := List.mem_map.mp hx
        intro e
        have := congrArg (fun t : Sit => t.2.length) e
        simp only at this
        have h2 := hd.2
        rw [this] at h2
        exact Nat.lt_irrefl _ h2
      · simp at hy
theorem filt_one {l : List Sit} {x : Sit} {c : Sit → Bool} (hn : l.Nodup) (h : ∀ t ∈ l, c t = true → t = x) : l.filter c = [] ∨ l.filter c = [x] := by
  induction l with
  | nil => exact .inl rfl
  | cons y l ih =>
    rw [List.nodup_cons] at hn
    have ih := ih hn.2 fun t ht => h t (by simp [ht])
    cases hc : c y with
    | false =>
      rw [List.filter_cons_of_neg (by rw [hc]; simp)]
      exact ih
    | true =>
      have hy := h y (by simp) hc
      subst hy
      rw [List.filter_cons_of_pos hc]
      refine .inr ?_
      have : l.filter c = [] := by
        rw [List.filter_eq_nil_iff]
        intro t ht hct
        have := h t (by simp [ht]) hct
        subst this
        exact hn.1 ht
      rw [this]
/-- with none late and none lost -/
theorem sortS_asc : ∀ {l : List Nat}, l.Pairwise (· < ·) → sortS (l.map fun y => (y, ([] : List Nat))) = l.map fun y => (y, [])
  | [], _ => rfl
  | x :: l, h => by
    rw [List.pairwise_cons] at h
    show insS (x, []) (sortS (l.map fun y => (y, []))) = _
    rw [sortS_asc h.2]
    cases l with
    | nil => rfl
    | cons y l =>
      have hxy := h.1 y (by simp)
      show (if leS (x, []) (y, []) = true then _ else _) = _
      have : leS (x, []) (y, []) = true := by
        unfold leS
        simp [hxy]
      rw [if_pos this]; rfl
theorem next_00 {p : Pl} (ok : p.Ok) {x o : Nat} (hx : x < p.n) (ho : o < p.k) : (nextIn 0 0 p (x, []) o).map (·.1) = ans p x o := by
  have hd : dueIn 0 p (x, [] ++ [o]) = (led p [x] o, []) := rfl
  have ha := ans_ok ok hx ho
  have hl : led p [x] o = ans p x o := by
    unfold led
    rw [List.flatMap_cons, List.flatMap_nil, List.append_nil]
    exact sortU_id ha.2.1
  unfold nextIn
  simp only [hd, hl, if_neg ha.1]
  simp only [List.nil_append, List.length_cons, List.length_nil]
  rw [if_neg (by omega), List.append_nil, sortS_asc ha.2.1, List.map_map]
  simp [Function.comp_def]
end PF
end L2

set_option Elab.async false
set_option linter.all false
namespace L2
namespace PF
/-! ### a plant with other answers of an order in a place -/
def put (p : Pl) (x o : Nat) (l : List Nat) : Pl := ⟨p.mv.set x ((p.mv.getD x []).set o l), p.bad, p.goal⟩
theorem getD_set {α : Type} {l : List α} {i j : Nat} {a d : α} (h : i < l.length) : (l.set i a).getD j d = if j = i then a else l.getD j d := by
  unfold List.getD
  rw [List.getElem?_set]
  by_cases e : i = j
  · subst e
    simp [h]
  · rw [if_neg e, if_neg (fun q => e q.symm)]
section
variable {p : Pl} (ok : p.Ok) {x o : Nat} (hx : x < p.n) (ho : o < p.k) {l : List Nat}
include ok hx
theorem row_len : (p.mv.getD x []).length = p.k := by
  have hx' : x < p.mv.length := hx
  have e : p.mv.getD x [] = p.mv[x] := by simp [List.getD, hx']
  rw [e]
  exact ok.rows _ (List.getElem_mem hx')
theorem put_n : (put p x o l).n = p.n := by simp [put, Pl.n]
theorem put_k : (put p x o l).k = p.k := by
  have h1 := row_len ok hx
  unfold Pl.k put
  rw [getD_set hx]
  split
  · rename_i e
    subst e
    simp
  · rfl
include ho
theorem put_ans {x' o' : Nat} : ans (put p x o l) x' o' = if x' = x ∧ o' = o then l else ans p x' o' := by
  have h1 := row_len ok hx
  unfold ans put
  rw [getD_set hx]
  by_cases e : x' = x
  · subst e
    rw [if_pos rfl, getD_set (by omega)]
    by_cases e2 : o' = o <;> simp [e2]
  · rw [if_neg e, if_neg (fun q => e q.1)]
theorem put_ok (h1 : l ≠ []) (h2 : l.Pairwise (· < ·)) (h3 : ∀ y ∈ l, y < p.n) : (put p x o l).Ok := by
  have hl := row_len ok hx
  have n := put_n ok hx (o := o) (l := l)
  have k := put_k ok hx (o := o) (l := l)
  have n' : (put p x o l).mv.length = p.mv.length := by simp [put]
  have hrow : ∀ r ∈ (put p x o l).mv, r = (p.mv.getD x []).set o l ∨ r ∈ p.mv := by
    intro r hr
    rcases List.mem_or_eq_of_mem_set hr with h | h
    · exact .inr h
    · exact .inl h
  have hin : p.mv.getD x [] ∈ p.mv := by
    have hx' : x < p.mv.length := hx
    have e : p.mv.getD x [] = p.mv[x] := by simp [List.getD, hx']
    rw [e]
    exact List.getElem_mem hx'
  have b := ok.bads
  have g := ok.goals
  refine ⟨by rw [n']; exact ok.n1, by rw [n']; exact ok.n6, by rw [k]; exact ok.k1, by rw [k]; exact ok.k3, ?_, ?_, by rw [n']; exact b, by rw [n']; exact g, ok.dis⟩
  · intro r hr
    rw [k]
    rcases hrow r hr with rfl | h
    · rw [List.length_set, hl]
    · exact ok.rows r h
  · intro r hr a ha
    rw [n']
    rcases hrow r hr with rfl | h
    · rcases List.mem_or_eq_of_mem_set ha with h | rfl
      · exact ok.asc _ hin a h
      · exact ⟨h1, h2, h3⟩
    · exact ok.asc r h a ha
end
/-- more answers -/
structure More (p p' : Pl) : Prop where
  n : p'.n = p.n
  k : p'.k = p.k
  ans : ∀ x o, ∀ y ∈ ans p x o, y ∈ PF.ans p' x o
theorem More.refl {p : Pl} : More p p := ⟨rfl, rfl, fun _ _ _ h => h⟩
theorem More.trans {p q r : Pl} (a : More p q) (b : More q r) : More p r := ⟨b.n.trans a.n, b.k.trans a.k, fun x o y h => b.ans x o y (a.ans x o y h)⟩
theorem led_more {p p' : Pl} (m : More p p') {A B : List Nat} {o : Nat} (h : ∀ x ∈ A, x ∈ B) : ∀ y ∈ led p A o, y ∈ led p' B o := by
  intro y hy
  obtain ⟨x, h1, h2⟩ := mem_led.mp hy
  exact mem_led.mpr ⟨x, h x h1, m.ans x o y h2⟩
theorem after_more {p p' : Pl} (m : More p p') : ∀ {row : List Nat} {A B : List Nat}, (∀ x ∈ A, x ∈ B) → ∀ y ∈ after p A row, y ∈ after p' B row
  | [], _, _, h => h
  | o :: row, A, B, h => by
    rw [after_cons, after_cons]
    exact after_more m (led_more m h)
theorem put_more {p : Pl} (ok : p.Ok) {x o y : Nat} (hx : x < p.n) (ho : o < p.k) : More p (put p x o (sortU (ans p x o ++ [y]))) := by
  refine ⟨put_n ok hx, put_k ok hx, fun x' o' z hz => ?_⟩
  rw [put_ans ok hx ho]
  split
  · rename_i e
    rw [e.1, e.2] at hz
    exact mem_sortU.mpr (by simp [hz])
  · exact hz
theorem put1_ok {p : Pl} (ok : p.Ok) {x o y : Nat} (hx : x < p.n) (ho : o < p.k) (hy : y < p.n) : (put p x o (sortU (ans p x o ++ [y]))).Ok := by
  refine put_ok ok hx ho ?_ asc_sortU ?_
  · exact List.ne_nil_of_mem (a := y) (mem_sortU.mpr (by simp))
  · intro z hz
    rcases List.mem_append.mp (mem_sortU.mp hz) with h | h
    · exact (ans_ok ok hx ho).2.2 z h
    · simp at h; omega
/-- behind a row: what the rest leads to from each place behind its beginning -/
theorem parts {p : Pl} {x i : Nat} {row : List Nat} {l : List Nat} (hl : ∀ y, y ∈ l ↔ ∃ q ∈ stands p (x, row.take i), y ∈ stands p (q, row.drop i)) : sortU l = stands p (x, row) := by
  refine asc_ext asc_sortU (asc_after (by simp)) fun y => ?_
  rw [mem_sortU, hl]
  unfold stands
  have := path (p := p) (y := y) (ps := [x]) (r1 := row.take i) (r2 := row.drop i)
  rw [List.take_append_drop] at this
  exact this.symm
end PF
end L2

set_option Elab.async false
set_option linter.all false
namespace L2
namespace PF
/-! ### found one by one, none twice -/
def dd (f a : List Nat) : List Nat := f ++ a.filter fun z => !f.contains z
theorem mem_dd {f a : List Nat} {y : Nat} : y ∈ dd f a ↔ y ∈ f ∨ y ∈ a := by
  unfold dd
  rw [List.mem_append, List.mem_filter]
  constructor
  · rintro (h | h)
    · exact .inl h
    · exact .inr h.1
  · intro h
    by_cases hf : y ∈ f
    · exact .inl hf
    · rcases h with h | h
      · exact absurd h hf
      · exact .inr ⟨h, by simpa using hf⟩
theorem dd_nodup {f a : List Nat} (hf : f.Nodup) (ha : a.Nodup) : (dd f a).Nodup := by
  unfold dd
  rw [List.nodup_append]
  refine ⟨hf, ha.filter _, ?_⟩
  intro x hx y hy e
  subst e
  have := (List.mem_filter.mp hy).2
  simp [hx] at this
theorem nodup_lt_len {l : List Nat} {n : Nat} (hn : l.Nodup) (h : ∀ x ∈ l, x < n) : l.length ≤ n := by
  have := nodup_len (U := List.range n) hn fun x hx => by simpa using h x hx
  simpa using this
theorem dd_fold {p : Pl} (ok : p.Ok) {o : Nat} (ho : o < p.k) {Z : Type} {g : Nat → Z} : ∀ {ps : List Nat}, (∀ x ∈ ps, x < p.n) → ∀ {fnd : List Nat} {z : Z}, fnd.Nodup → (∀ y ∈ fnd, y < p.n) →
    (ps.foldl (fun s x => (dd s.1 (ans p x o), g x)) (fnd, z)).1.Nodup ∧ (∀ y ∈ (ps.foldl (fun s x => (dd s.1 (ans p x o), g x)) (fnd, z)).1, y < p.n) ∧ ∀ y, y ∈ (ps.foldl (fun s x => (dd s.1 (ans p x o), g x)) (fnd, z)).1 ↔ y ∈ fnd ∨ ∃ x ∈ ps, y ∈ ans p x o
  | [], _, fnd, z, h1, h2 => ⟨h1, h2, fun y => by simp⟩
  | x :: ps, hp, fnd, z, h1, h2 => by
    have ha := ans_ok ok (hp x (by simp)) ho
    rw [List.foldl_cons]
    obtain ⟨a, b, c⟩ := dd_fold ok ho (g := g) (ps := ps) (fun y hy => hp y (by simp [hy])) (fnd := dd fnd (ans p x o)) (z := g x) (dd_nodup h1 (ha.2.1.imp fun h => by omega)) (fun y hy => by
      rcases mem_dd.mp hy with h | h
      · exact h2 y h
      · exact ha.2.2 y h)
    refine ⟨a, b, fun y => ?_⟩
    rw [c, mem_dd]
    simp only [List.mem_cons]
    constructor
    · rintro ((h | h) | ⟨w, h, h'⟩)
      · exact .inl h
      · exact .inr ⟨x, .inl rfl, h⟩
      · exact .inr ⟨w, .inr h, h'⟩
    · rintro (h | ⟨w, rfl | h, h'⟩)
      · exact .inl (.inl h)
      · exact .inl (.inr h')
      · exact .inr ⟨w, h, h'⟩
end PF
end L2

set_option Elab.async false
set_option linter.all false
set_option maxRecDepth 100000
set_option maxHeartbeats 2000000
namespace L2
namespace MP
open PySem PySem.Spec PyProof.Rows
/-! ### plain values as D -/
abbrev N (n : Nat) : D := .int (n : Int)
def eT (l : List Nat) : D := .tup (l.map N)
def eL (l : List Nat) : D := .lst (l.map N)
def eS (s : PF.Sit) : D := .tup [N s.1, eT s.2]
def eR (r : List (List Nat)) : D := .tup (r.map eT)
def eM (mv : List (List (List Nat))) : D := .tup (mv.map eR)
def ePl (p : PF.Pl) : D := .ins 0 [(.rows, eM p.mv), (.marks, .tup [eT p.bad, eT p.goal])]
section
variable {α : Type}
theorem lows_map {f : α → D} {n : Nat} (h : ∀ a, D.low n (f a) = true) : ∀ l : List α, D.lows n (l.map f) = true
  | [] => rfl
  | a :: l => by simp [D.lows, h a, lows_map h l]
theorem plains_map {f : α → D} {n : Nat} (h : ∀ a, D.plain (f a) n = true) : ∀ l : List α, D.plains (l.map f) n = true
  | [] => rfl
  | a :: l => by simp [D.plains, h a, plains_map h l]
theorem low_N {n m : Nat} : D.low n (N m) = true := rfl
theorem low_eT {n : Nat} {l : List Nat} : D.low n (eT l) = true := lows_map (fun _ => rfl) l
theorem low_eL {n : Nat} {l : List Nat} : D.low n (eL l) = true := lows_map (fun _ => rfl) l
theorem low_eS {n : Nat} {s : PF.Sit} : D.low n (eS s) = true := by simp [eS, D.low, D.lows, low_eT]
theorem low_eR {n : Nat} {r : List (List Nat)} : D.low n (eR r) = true := lows_map (fun _ => low_eT) r
theorem low_eM {n : Nat} {m : List (List (List Nat))} : D.low n (eM m) = true := lows_map (fun _ => low_eR) m
theorem low_ePl {n : Nat} {p : PF.Pl} : D.low n (ePl p) = true := by
  simp only [ePl, D.low, D.lowf, D.lows, low_eT, low_eM, Bool.and_true, Bool.true_and]
theorem plain_eT {l : List Nat} {n : Nat} : D.plain (eT l) (n + 1) = true := plains_map (fun _ => rfl) l
theorem plain_eL {l : List Nat} {n : Nat} : D.plain (eL l) (n + 1) = true := plains_map (fun _ => rfl) l
theorem plain_eS {s : PF.Sit} {n : Nat} : D.plain (eS s) (n + 2) = true := by simp [eS, D.plain, D.plains, plain_eT]
theorem eqvs_map {f : α → D} [BEq α] (h : ∀ a b, D.eqv (f a) (f b) = (a == b)) : ∀ l m : List α, D.eqvs (l.map f) (m.map f) = (l == m)
  | [], [] => rfl
  | [], _ :: _ => rfl
  | _ :: _, [] => rfl
  | a :: l, b :: m => by
    show (D.eqv (f a) (f b) && D.eqvs (l.map f) (m.map f)) = _
    rw [h, eqvs_map h l m]; rfl
theorem eqv_N {a b : Nat} : D.eqv (N a) (N b) = (a == b) := by
  show ((a : Int) == (b : Int)) = _
  rw [Bool.eq_iff_iff, beq_iff_eq, beq_iff_eq]; omega
theorem eqv_eT {l m : List Nat} : D.eqv (eT l) (eT m) = (l == m) := eqvs_map (fun _ _ => eqv_N) l m
theorem eqv_eL {l m : List Nat} : D.eqv (eL l) (eL m) = (l == m) := eqvs_map (fun _ _ => eqv_N) l m
theorem eqv_eS {s t : PF.Sit} : D.eqv (eS s) (eS t) = (s == t) := by
  show (D.eqv (N s.1) (N t.1) && (D.eqv (eT s.2) (eT t.2) && true)) = _
  rw [eqv_N, eqv_eT, Bool.and_true]; rfl
/-! ### keys -/
theorem keys_map {f : α → D} {k : α → NestedKey} (h : ∀ a, D.key (f a) = some (k a)) : ∀ l : List α, D.keys (l.map f) = some (l.map k)
  | [] => rfl
  | a :: l => by simp [D.keys, h a, keys_map h l]
theorem depthAll_num : ∀ l : List Nat, NestedKey.depthAll (l.map fun n : Nat => .num (n : Int)) ≤ 1
  | [] => by simp [NestedKey.depthAll]
  | a :: l => by
    have := depthAll_num l
    simp only [List.map_cons, NestedKey.depthAll, NestedKey.depth]
    omega
theorem key_eT {l : List Nat} : D.key (eT l) = some (.tup (l.map fun n : Nat => .num (n : Int))) := by
  unfold eT
  rw [D.key, keys_map (k := fun n : Nat => NestedKey.num (n : Int)) (fun _ => rfl)]; rfl
theorem kdepth_eT {l : List Nat} {n : Nat} (hn : 2 ≤ n) : kdepth n (eT l) = true := by
  unfold kdepth
  rw [key_eT]
  have := depthAll_num l
  simp only [NestedKey.depth]
  exact decide_eq_true (by omega)
theorem kdepth_eS {s : PF.Sit} {n : Nat} (hn : 3 ≤ n) : kdepth n (eS s) = true := by
  have h1 : D.keys [N s.1, eT s.2] = some [.num (s.1 : Int), .tup (s.2.map fun n : Nat => .num (n : Int))] := by
    simp only [D.keys, key_eT]
    rfl
  have h2 : D.key (eS s) = some (.tup [.num (s.1 : Int), .tup (s.2.map fun n : Nat => .num (n : Int))]) := by
    unfold eS
    rw [D.key, h1]; rfl
  unfold kdepth
  rw [h2]
  have := depthAll_num s.2
  simp only [NestedKey.depth, NestedKey.depthAll]
  refine decide_eq_true ?_
  omega
/-! ### dicts as lists of pairs -/
theorem kget_map {κ β : Type} [BEq κ] {ek : κ → D} {ev : β → D} (h : ∀ a b, D.eqv (ek a) (ek b) = (a == b)) (hs : ∀ a b : κ, (a == b) = (b == a)) (s : κ) : ∀ W : List (κ × β), kget (W.map fun z => (ek z.1, ev z.2)) (ek s) = (W.lookup s).map ev
  | [] => rfl
  | (k, v) :: W => by
    show (if D.eqv (ek k) (ek s) = true then some (ev v) else kget (W.map fun z => (ek z.1, ev z.2)) (ek s)) = _
    rw [h, hs, List.lookup_cons, kget_map h hs s W]
    cases s == k <;> rfl
theorem kput_map {κ β : Type} [BEq κ] {ek : κ → D} {ev : β → D} (h : ∀ a b, D.eqv (ek a) (ek b) = (a == b)) (hs : ∀ a b : κ, (a == b) = (b == a)) (s : κ) (v : β) : ∀ W : List (κ × β), PF.hasK W s = false → kput (W.map fun z => (ek z.1, ev z.2)) (ek s) (ev v) = (W ++ [(s, v)]).map fun z => (ek z.1, ev z.2)
  | [], _ => rfl
  | (k, u) :: W, hn => by
    unfold PF.hasK at hn
    rw [List.lookup_cons] at hn
    show (if D.eqv (ek k) (ek s) = true then (ek k, ev v) :: W.map (fun z => (ek z.1, ev z.2)) else (ek k, ev u) :: kput (W.map fun z => (ek z.1, ev z.2)) (ek s) (ev v)) = _
    rw [h, hs]
    cases e : s == k with
    | true => rw [e] at hn; cases hn
    | false =>
      rw [e] at hn
      rw [kput_map h hs s v W hn]; rfl
theorem beq_comm' {κ : Type} [BEq κ] [LawfulBEq κ] (a b : κ) : (a == b) = (b == a) := by
  rw [Bool.eq_iff_iff, beq_iff_eq, beq_iff_eq]; exact eq_comm
/-! ### lists -/
theorem any_eqP {κ : Type} [BEq κ] {ek : κ → D} (h : ∀ a b, D.eqv (ek a) (ek b) = (a == b)) (s : κ) : ∀ l : List κ, ((l.map ek).any fun y => D.eqv y (ek s)) = l.any fun y => y == s
  | [] => rfl
  | a :: l => by rw [List.map_cons, List.any_cons, List.any_cons, h, any_eqP h s l]
theorem any_mem {κ : Type} [BEq κ] [LawfulBEq κ] (s : κ) (l : List κ) : (l.any fun y => y == s) = l.contains s := by
  rw [Bool.eq_iff_iff, List.any_eq_true, List.contains_iff_mem]
  constructor
  · rintro ⟨x, hx, e⟩
    rw [beq_iff_eq] at e
    subst e; exact hx
  · intro h; exact ⟨s, h, by simp⟩
theorem bools_map {f : α → Bool} : ∀ l : List α, bools (l.map fun a => D.bl (f a)) = some (l.map f)
  | [] => rfl
  | a :: l => by
    show (bools (l.map fun a => D.bl (f a))).map (f a :: ·) = _
    rw [bools_map l]; rfl
theorem ints_N : ∀ l : List Nat, intsD (l.map N) = some (l.map fun n : Nat => (n : Int))
  | [] => rfl
  | a :: l => by
    show (intsD (l.map N)).map ((a : Int) :: ·) = _
    rw [ints_N l]; rfl
theorem insU_N (x : Nat) : ∀ l : List Nat, insU (x : Int) (l.map fun n : Nat => (n : Int)) = (PF.insU x l).map fun n : Nat => (n : Int)
  | [] => rfl
  | y :: l => by
    show (if (x : Int) < (y : Int) then _ else if (x : Int) = (y : Int) then _ else _) = _
    unfold PF.insU
    by_cases h1 : x < y
    · rw [if_pos (by omega), if_pos h1]; rfl
    · rw [if_neg (by omega), if_neg h1]
      by_cases h2 : x = y
      · rw [if_pos (by omega), if_pos h2]; rfl
      · rw [if_neg (by omega), if_neg h2, List.map_cons, insU_N x l]
theorem sortU_N : ∀ l : List Nat, sortU (l.map fun n : Nat => (n : Int)) = (PF.sortU l).map fun n : Nat => (n : Int)
  | [] => rfl
  | x :: l => by
    show insU (x : Int) (sortU (l.map fun n : Nat => (n : Int))) = _
    rw [sortU_N l, insU_N]; rfl
theorem map_int (l : List Nat) : (l.map fun n : Nat => (n : Int)).map D.int = l.map N := by simp
end
/-! ### the order of situations -/
theorem leL_lt : ∀ xs ys : List Nat, PF.leL xs ys = !decide ((ys.map fun n : Nat => (n : Int)) < xs.map fun n : Nat => (n : Int))
  | [], ys => by
    cases ys <;> simp [PF.leL]
  | x :: xs, [] => by simp [PF.leL]
  | x :: xs, y :: ys => by
    unfold PF.leL
    rw [leL_lt xs ys]
    simp only [List.map_cons, List.cons_lt_cons_iff]
    by_cases h1 : x < y
    · have : ¬ ((y : Int) < x) := by omega
      have h2 : ¬ ((y : Int) = x) := by omega
      simp [h1, this, h2]
    · by_cases h2 : x = y
      · subst h2; simp
      · have : (y : Int) < x := by omega
        have h3 : (x == y) = false := by simpa using h2
        simp [h1, h3, this]
theorem pd_eT {l : List Nat} : D.pd (eT l) = some (.tuple (l.map fun n : Nat => .int (n : Int))) := by
  have : ∀ l : List Nat, D.pds (l.map N) = some (l.map fun n : Nat => .int (n : Int)) := by
    intro l
    induction l with
    | nil => rfl
    | cons a l ih => simp [D.pds, ih, D.pd]
  unfold eT
  rw [D.pd, this]; rfl
theorem pd_eS {s : PF.Sit} : D.pd (eS s) = some (.tuple [.int (s.1 : Int), .tuple (s.2.map fun n : Nat => .int (n : Int))]) := by
  unfold eS
  simp only [D.pd, D.pds, pd_eT]
  rfl
theorem lt_eS (s t : PF.Sit) : PySem.W.dataLt (encD (eS s)) (encD (eS t)) = !PF.leS t s := by
  unfold encD
  rw [pd_eS, pd_eS]
  simp only [Option.getD_some]
  have al : ∀ l m : List Nat, PySem.W.alikeAll (l.map fun n : Nat => PyData.int (n : Int)) (m.map fun n : Nat => PyData.int (n : Int)) = true := by
    intro l
    induction l with
    | nil => intro m; simp [PySem.W.alikeAll]
    | cons a l ih => intro m; cases m <;> simp [PySem.W.alikeAll, PySem.W.alike, ih]
  have eqa : ∀ l m : List Nat, PyData.eqvAll (l.map fun n : Nat => PyData.int (n : Int)) (m.map fun n : Nat => PyData.int (n : Int)) = (l == m) := by
    intro l
    induction l with
    | nil => intro m; cases m <;> rfl
    | cons a l ih =>
      intro m
      cases m with
      | nil => rfl
      | cons b m =>
        simp only [List.map_cons, PyData.eqvAll, PyData.eqv, ih]
        show (((a : Int) == (b : Int)) && (l == m)) = _
        rw [show ((a : Int) == (b : Int)) = (a == b) by rw [Bool.eq_iff_iff, beq_iff_eq, beq_iff_eq]; omega]
        rfl
  rw [PySem.W.dataLt_pair (by simp [PySem.W.alike]) (by rw [PySem.W.alike]; exact al _ _), PySem.W.dataLt_int]
  simp only [PyData.eqv, eqa]
  have hrow : PySem.W.dataLt (.tuple (s.2.map fun n : Nat => PyData.int (n : Int))) (.tuple (t.2.map fun n : Nat => PyData.int (n : Int))) = !PF.leL t.2 s.2 := by
    rw [PySem.W.dataLt_tuple, leL_lt, Bool.not_not]
    have := PySem.W.dataLt_ints (s.2.map fun n : Nat => (n : Int)) (t.2.map fun n : Nat => (n : Int))
    rw [List.map_map, List.map_map] at this
    exact this
  rw [hrow]
  unfold PF.leS
  have lrefl : ∀ l : List Nat, PF.leL l l = true := by
    intro l
    rw [leL_lt]; simp
  by_cases h1 : s.1 = t.1
  · rw [h1]
    simp only [beq_self_eq_true, if_true, Nat.lt_irrefl, decide_false, Bool.false_or, Bool.true_and]
    by_cases h2 : s.2 = t.2
    · rw [h2, if_pos (by simp), lrefl]; rfl
    · rw [if_neg (by simpa using h2)]
  · have e1 : ((s.1 : Int) == (t.1 : Int)) = false := by
      rw [beq_eq_false_iff_ne]; omega
    have e2 : (t.1 == s.1) = false := by
      rw [beq_eq_false_iff_ne]; omega
    rw [e1, e2]
    simp only [Bool.false_eq_true, if_false, Bool.false_and, Bool.or_false]
    by_cases h3 : t.1 < s.1
    · rw [decide_eq_true h3, decide_eq_false (by omega)]; rfl
    · rw [decide_eq_false h3, decide_eq_true (by omega)]; rfl
theorem le_eS (s t : PF.Sit) : leD (eS s) (eS t) = PF.leS s t := by
  show (!PySem.W.dataLt (encD (eS t)) (encD (eS s))) = _
  rw [lt_eS, Bool.not_not]
theorem insD_S (x : PF.Sit) : ∀ l : List PF.Sit, insD (eS x) (l.map eS) = (PF.insS x l).map eS
  | [] => rfl
  | y :: l => by
    show (if leD (eS x) (eS y) = true then _ else _) = _
    unfold PF.insS
    rw [le_eS]
    cases h : PF.leS x y with
    | true => rfl
    | false =>
      simp only [Bool.false_eq_true, if_false, List.map_cons]
      rw [insD_S x l]
theorem sortD_S : ∀ l : List PF.Sit, sortD (l.map eS) = (PF.sortS l).map eS
  | [] => rfl
  | x :: l => by
    show insD (eS x) (sortD (l.map eS)) = _
    rw [sortD_S l, insD_S]; rfl
theorem alike_eS (s t : PF.Sit) : PySem.W.alike (encD (eS s)) (encD (eS t)) = true := by
  unfold encD
  rw [pd_eS, pd_eS]
  simp only [Option.getD_some, PySem.W.alike, PySem.W.alikeAll, Bool.true_and, Bool.and_true]
  have al : ∀ l m : List Nat, PySem.W.alikeAll (l.map fun n : Nat => PyData.int (n : Int)) (m.map fun n : Nat => PyData.int (n : Int)) = true := by
    intro l
    induction l with
    | nil => intro m; simp [PySem.W.alikeAll]
    | cons a l ih => intro m; cases m <;> simp [PySem.W.alikeAll, PySem.W.alike, ih]
  exact al _ _
theorem sortOk_S {l : List PF.Sit} (h : l.length ≤ LIM) : sortOk (l.map eS) = true := by
  unfold sortOk
  simp only [Bool.and_eq_true, decide_eq_true_eq]
  refine ⟨⟨⟨?_, ?_⟩, ?_⟩, by simpa using h⟩
  · rw [List.all_eq_true]
    intro d hd
    obtain ⟨s, _, rfl⟩ := List.mem_map.mp hd
    exact plain_eS (n := 48)
  · rw [Bool.or_eq_true]
    refine .inl ?_
    rw [List.all_eq_true]
    intro d hd
    obtain ⟨s, _, rfl⟩ := List.mem_map.mp hd
    rfl
  · rw [List.all_eq_true]
    intro d hd
    obtain ⟨s, _, rfl⟩ := List.mem_map.mp hd
    rw [List.all_eq_true]
    intro d hd
    obtain ⟨t, _, rfl⟩ := List.mem_map.mp hd
    exact alike_eS s t
end MP
end L2

set_option Elab.async false
set_option linter.all false
set_option maxRecDepth 100000
set_option maxHeartbeats 2000000
namespace L2
namespace MP
open PySem PySem.Spec PyProof.Rows
theorem fin1_same' {n : Nat} {v : D} {h : Hm} (hl : h.length ≤ n) : fin1 n v h = .ok v h := by
  unfold fin1
  rw [List.take_of_length_le hl]
  split <;> rfl
theorem fin1_zero {v : D} {h : Hm} (hl : D.low 0 v = true) : fin1 0 v h = .ok v [] := by
  unfold fin1
  rw [List.take_zero, hl]; rfl
/-- a def's end, with no places at first -/
theorem runF_rt0 {len : Nat} {m : MS} {as : List D} {v : D} {h : Hm} (e : m (as.map some ++ List.replicate (len - as.length) none) [] = .rt v h) (hl : D.low 0 v = true) : runF len m as [] = .ok v [] := by
  unfold runF
  rw [e]; exact fin1_zero hl
theorem runF_nx0 {len : Nat} {m : MS} {as : List D} {e' : Ev} {h : Hm} (e : m (as.map some ++ List.replicate (len - as.length) none) [] = .nx e' h) : runF len m as [] = .ok .non [] := by
  unfold runF
  rw [e]; exact fin1_zero rfl
theorem runF_rt {len : Nat} {m : MS} {as : List D} {v : D} {h : Hm} (e : m (as.map some ++ List.replicate (len - as.length) none) h = .rt v h) : runF len m as h = .ok v h := by
  unfold runF
  rw [e]; exact fin1_same' (Nat.le_refl _)
theorem runF_nx {len : Nat} {m : MS} {as : List D} {e' : Ev} {h : Hm} (e : m (as.map some ++ List.replicate (len - as.length) none) h = .nx e' h) : runF len m as h = .ok .non h := by
  unfold runF
  rw [e]; exact fin1_same' (Nat.le_refl _)
section
variable {α β : Type} {en : α → D} {t : Tg} {cond : MT} {elt : ME} {e0 e : Ev} {h h1 : Hm} {mi : MI} {vs : List Nat}
theorem compL_filter {f : α → D} {c : α → Bool} : ∀ {xs : List α}, (∀ x ∈ xs, ∃ e1, t (en x) e0 = some e1 ∧ cond e1 h = .ok (c x) h ∧ (c x = true → elt e1 h = .ok (f x) h)) → compL t cond elt e0 (xs.map en) h = .ok ((xs.filter c).map f) h
  | [], _ => rfl
  | x :: xs, H => by
    obtain ⟨e1, h1, h2, h3⟩ := H x (by simp)
    have ih := compL_filter (xs := xs) fun y hy => H y (by simp [hy])
    rw [List.map_cons]
    unfold compL
    rw [h1]
    simp only [h2, nox, Res.bind]
    cases hc : c x with
    | true =>
      simp only [if_true, h3 hc, nox, ih, Res.bind, List.filter_cons_of_pos hc, List.map_cons]
    | false =>
      rw [List.filter_cons_of_neg (by rw [hc]; simp)]
      simp only [Bool.false_eq_true, if_false, ih]
theorem comp_filter {xs : List α} {f : α → D} {c : α → Bool} (hm : mi e h = .ok (xs.map en) h1) (hl : xs.length ≤ LIM)
    (H : ∀ x ∈ xs, ∃ e1, t (en x) (ewipe e vs) = some e1 ∧ cond e1 h1 = .ok (c x) h1 ∧ (c x = true → elt e1 h1 = .ok (f x) h1)) : mComp mi t cond elt vs e h = .ok (.lst ((xs.filter c).map f)) h1 := by
  unfold mComp
  rw [hm]
  simp only [Res.bind, compL_filter H, fLst]
  rw [if_pos (by simpa using Nat.le_trans (List.length_filter_le _ _) hl)]
theorem filter_tt {xs : List α} : xs.filter (fun _ => true) = xs := List.filter_eq_self.mpr fun _ _ => rfl
theorem comp_map {xs : List α} {f : α → D} (hm : mi e h = .ok (xs.map en) h1) (hl : xs.length ≤ LIM)
    (H : ∀ x ∈ xs, ∃ e1, t (en x) (ewipe e vs) = some e1 ∧ elt e1 h1 = .ok (f x) h1) : mComp mi t tYesM elt vs e h = .ok (.lst (xs.map f)) h1 := by
  have := comp_filter (t := t) (cond := tYesM) (elt := elt) (vs := vs) (f := f) (c := fun _ => true) hm hl fun x hx => by
    obtain ⟨e1, h2, h3⟩ := H x hx
    exact ⟨e1, h2, rfl, fun _ => h3⟩
  rw [filter_tt] at this
  exact this
theorem compN_map {xs : List α} {f : α → D} (hm : mi e h = .ok (xs.map en) h1) (hl : xs.length ≤ LIM)
    (H : ∀ x ∈ xs, ∃ e1, t (en x) (ewipe e vs) = some e1 ∧ elt e1 h1 = .ok (f x) h1) : mCompN mi t tYesM elt vs e h = .ok (.loc h1.length) (h1 ++ [some (.lst (xs.map f))]) := by
  have := compL_filter (t := t) (cond := tYesM) (elt := elt) (e0 := ewipe e vs) (h := h1) (en := en) (f := f) (c := fun _ => true) (xs := xs) fun x hx => by
    obtain ⟨e1, h2, h3⟩ := H x hx
    exact ⟨e1, h2, rfl, fun _ => h3⟩
  rw [filter_tt] at this
  unfold mCompN
  rw [hm]
  simp only [Res.bind, this, fNewL]
  rw [if_pos (by simpa using hl)]
theorem compL2_map {t1 : Tg} {mi1 : MI} {vs1 : List Nat} {ys : α → List β} {en1 : β → D} {f : α → β → D} : ∀ {xs : List α}, (∀ x ∈ xs, ∃ e1, t (en x) e0 = some e1 ∧ mi1 e1 h = .ok ((ys x).map en1) h ∧ ∀ y ∈ ys x, ∃ e2, t1 (en1 y) (ewipe e1 vs1) = some e2 ∧ elt e2 h = .ok (f x y) h) →
    compL2 t tYesM mi1 t1 tYesM elt vs1 e0 (xs.map en) h = .ok (xs.flatMap fun x => (ys x).map (f x)) h
  | [], _ => rfl
  | x :: xs, H => by
    obtain ⟨e1, h1, h2, h3⟩ := H x (by simp)
    have ih := compL2_map (xs := xs) fun y hy => H y (by simp [hy])
    have h4 := compL_filter (t := t1) (cond := tYesM) (elt := elt) (e0 := ewipe e1 vs1) (h := h) (en := en1) (f := f x) (c := fun _ => true) (xs := ys x) fun y hy => by
      obtain ⟨e2, h5, h6⟩ := h3 y hy
      exact ⟨e2, h5, rfl, fun _ => h6⟩
    rw [filter_tt] at h4
    rw [List.map_cons]
    unfold compL2
    rw [h1]
    simp only [show tYesM e1 h = .ok true h from rfl, nox, Res.bind, if_true, h2, h4, ih]
    simp
theorem comp2_map {t1 : Tg} {mi1 : MI} {vs1 : List Nat} {xs : List α} {ys : α → List β} {en1 : β → D} {f : α → β → D} (hm : mi e h = .ok (xs.map en) h1) (hl : (xs.flatMap ys).length ≤ LIM)
    (H : ∀ x ∈ xs, ∃ e1, t (en x) (ewipe e vs) = some e1 ∧ mi1 e1 h1 = .ok ((ys x).map en1) h1 ∧ ∀ y ∈ ys x, ∃ e2, t1 (en1 y) (ewipe e1 vs1) = some e2 ∧ elt e2 h1 = .ok (f x y) h1) :
    mComp2 mi t tYesM mi1 t1 tYesM elt vs vs1 e h = .ok (.lst (xs.flatMap fun x => (ys x).map (f x))) h1 := by
  unfold mComp2
  rw [hm]
  simp only [Res.bind, compL2_map H, fLst]
  rw [if_pos]
  have : (xs.flatMap fun x => (ys x).map (f x)).length = (xs.flatMap ys).length := by simp [List.length_flatMap]
  rw [this]; exact hl
/-- a loop as a fold -/
theorem forL_fold {σ : Type} {body : MS} (ρ : σ → Ev) (η : σ → Hm) (step : σ → α → σ) (I : σ → Prop) : ∀ {xs : List α} {s : σ}, (∀ s x, x ∈ xs → I s → I (step s x) ∧ ∃ e1, t (en x) (ρ s) = some e1 ∧ body e1 (η s) = .nx (ρ (step s x)) (η (step s x))) → I s →
    forL t body (xs.map en) (ρ s) (η s) = .nx (ρ (xs.foldl step s)) (η (xs.foldl step s))
  | [], s, _, _ => rfl
  | x :: xs, s, H, hi => by
    obtain ⟨hi', e1, h1, h2⟩ := H s x (by simp) hi
    rw [List.map_cons]
    unfold forL
    rw [h1]
    simp only [h2]
    exact forL_fold ρ η step I (fun s y hy => H s y (by simp [hy])) hi'
/-- a loop that goes on, by what stays true -/
theorem forL_pred {body : MS} (I : Ev → Hm → Prop) : ∀ {xs : List D} {e : Ev} {h : Hm}, (∀ x ∈ xs, ∀ e h, I e h → ∃ e1 e2 h2, t x e = some e1 ∧ body e1 h = .nx e2 h2 ∧ I e2 h2) → I e h → ∃ e2 h2, forL t body xs e h = .nx e2 h2 ∧ I e2 h2
  | [], e, h, _, hi => ⟨e, h, rfl, hi⟩
  | x :: xs, e, h, H, hi => by
    obtain ⟨e1, e2, h2, a, b, c⟩ := H x (by simp) e h hi
    obtain ⟨e3, h3, d, r⟩ := forL_pred I (xs := xs) (fun y hy => H y (by simp [hy])) c
    refine ⟨e3, h3, ?_, r⟩
    unfold forL
    rw [a]
    simp only [b]
    exact d
end
theorem sFor_ok {mi : MI} {t : Tg} {body : MS} {e : Ev} {h h1 : Hm} {ds : List D} (hm : mi e h = .ok ds h1) : sFor mi t body e h = forL t body ds e h1 := by
  unfold sFor
  rw [hm]
/-- while, step by step -/
theorem while_t {c : MT} {body : MS} {n : Nat} {e e2 : Ev} {h h1 h2 : Hm} (hc : c e h = .ok true h1) (hb : body e h1 = .nx e2 h2) : whileN c body (n + 1) e h = whileN c body n e2 h2 := by
  rw [whileN]
  simp only [hc, hb]
theorem while_f {c : MT} {body : MS} {n : Nat} {e : Ev} {h h1 : Hm} (hc : c e h = .ok false h1) : whileN c body (n + 1) e h = .nx e h1 := by
  rw [whileN]
  simp only [hc]
theorem seq_nx {a b : MS} {e e1 : Ev} {h h1 : Hm} (ha : a e h = .nx e1 h1) : sSeq a b e h = b e1 h1 := by simp [sSeq, ha]
theorem iAny_t {a : ME} {e : Ev} {h h1 : Hm} {xs : List D} (ha : a e h = .ok (.tup xs) h1) : iAny a e h = .ok xs h1 := by simp [iAny, ha, Res.bind]
theorem iAny_l {a : ME} {e : Ev} {h h1 : Hm} {xs : List D} (ha : a e h = .ok (.lst xs) h1) : iAny a e h = .ok xs h1 := by simp [iAny, ha, Res.bind]
theorem iAny_d {a : ME} {e : Ev} {h h1 : Hm} {kvs : List (D × D)} (ha : a e h = .ok (.dct kvs) h1) : iAny a e h = .ok (kvs.map (·.1)) h1 := by simp [iAny, ha, Res.bind]
theorem rngD_N (n : Nat) : rngD 0 n = (List.range n).map N := by
  unfold rngD
  simp
theorem iRange_I {a : ME} {e : Ev} {h h1 : Hm} {j : Int} (ha : a e h = .ok (.int j) h1) (h0 : 0 ≤ j) (hn : j < 1000000) : iRange1 a e h = .ok (rngD 0 j.toNat) h1 := by
  unfold iRange1
  rw [ha]
  have hb : (decide (-B62 ≤ j) && decide (j < B62)) = true := by
    unfold B62
    rw [Bool.and_eq_true]
    exact ⟨decide_eq_true (by omega), decide_eq_true (by omega)⟩
  simp only [Res.bind, hb, if_true]
theorem iRange_N {a : ME} {e : Ev} {h h1 : Hm} {n : Nat} (ha : a e h = .ok (N n) h1) (hn : n < 1000000) : iRange1 a e h = .ok ((List.range n).map N) h1 := by
  rw [iRange_I ha (by omega) (by omega), Int.toNat_natCast, rngD_N]
end MP
end L2

set_option Elab.async false
set_option linter.all false
set_option maxRecDepth 100000
set_option maxHeartbeats 2000000
namespace L2
namespace MP
open PySem PySem.Spec PyProof.Rows
section
variable {α : Type} {h : Hm}
theorem fAll_map {f : α → Bool} {l : List α} : fAll (.lst (l.map fun a => D.bl (f a))) h = .ok (.bl (l.all f)) h := by
  unfold fAll
  simp only [rdL, Option.bind_some, bools_map]
  rw [List.all_map]; rfl
theorem fAny_map {f : α → Bool} {l : List α} : fAny (.lst (l.map fun a => D.bl (f a))) h = .ok (.bl (l.any f)) h := by
  unfold fAny
  simp only [rdL, Option.bind_some, bools_map]
  rw [List.any_map]; rfl
theorem fAll_flat {β : Type} {f : α → β → Bool} {g : α → List β} {l : List α} : fAll (.lst (l.flatMap fun a => (g a).map fun b => D.bl (f a b))) h = .ok (.bl (l.all fun a => (g a).all (f a))) h := by
  have e : (l.flatMap fun a => (g a).map fun b => D.bl (f a b)) = (l.flatMap fun a => (g a).map (f a)).map fun b => D.bl b := by
    rw [List.map_flatMap]
    congr 1
    funext a
    simp
  rw [e, fAll_map (f := fun b => b)]
  simp only [List.all_flatMap, List.all_map]
  rfl
theorem fSortSet_T {l : List Nat} (hl : l.length < 64) : fSortSet (eT l) h = .ok (eL (PF.sortU l)) h := by
  unfold fSortSet eT
  simp only [rdS, Option.bind_some, ints_N]
  rw [if_pos (by simpa using hl), sortU_N, map_int]; rfl
theorem fSortSet_L {l : List Nat} (hl : l.length < 64) : fSortSet (eL l) h = .ok (eL (PF.sortU l)) h := by
  unfold fSortSet eL
  simp only [rdS, rdL, Option.bind_some, ints_N]
  rw [if_pos (by simpa using hl), sortU_N, map_int]
theorem fLstOf_T {xs : List D} : fLstOf (.tup xs) h = .ok (.lst xs) h := rfl
theorem fTupOf_L {xs : List D} : fTupOf (.lst xs) h = .ok (.tup xs) h := rfl
theorem fLen_T {xs : List D} : fLen (.tup xs) h = .ok (.int xs.length) h := rfl
theorem fLen_L {xs : List D} : fLen (.lst xs) h = .ok (.int xs.length) h := rfl
theorem fLen_eT {l : List Nat} : fLen (eT l) h = .ok (N l.length) h := by
  exact fLen_T.trans (by rw [List.length_map])
theorem fEq_plain {a b : D} (ha : D.plain (deref h a) 60 = true) (hb : D.plain (deref h b) 60 = true) : fEq a b h = .ok (.bl (D.eqv (deref h a) (deref h b))) h := by
  unfold fEq; rw [ha, hb]; rfl
theorem fNe_plain {a b : D} (ha : D.plain (deref h a) 60 = true) (hb : D.plain (deref h b) 60 = true) : fNe a b h = .ok (.bl (!D.eqv (deref h a) (deref h b))) h := by
  unfold fNe; rw [ha, hb]; rfl
theorem fEq_L {l m : List Nat} : fEq (eL l) (eL m) h = .ok (.bl (l == m)) h := (fEq_plain (h := h) (a := eL l) (b := eL m) (plain_eL (n := 59)) (plain_eL (n := 59))).trans (by rw [show deref h (eL l) = eL l from rfl, show deref h (eL m) = eL m from rfl, eqv_eL])
theorem fEq_T {l m : List Nat} : fEq (eT l) (eT m) h = .ok (.bl (l == m)) h := (fEq_plain (h := h) (a := eT l) (b := eT m) (plain_eT (n := 59)) (plain_eT (n := 59))).trans (by rw [show deref h (eT l) = eT l from rfl, show deref h (eT m) = eT m from rfl, eqv_eT])
theorem fEq_I {i j : Int} : fEq (.int i) (.int j) h = .ok (.bl (i == j)) h := by simp [fEq, deref, D.plain, D.eqv]
theorem fNe_I {i j : Int} : fNe (.int i) (.int j) h = .ok (.bl (!(i == j))) h := by simp [fNe, deref, D.plain, D.eqv]
theorem beq_NN {a b : Nat} : ((a : Int) == (b : Int)) = (a == b) := by
  rw [Bool.eq_iff_iff, beq_iff_eq, beq_iff_eq]; omega
/-- membership in a tuple or list of numbers -/
theorem fMem_T {neg : Bool} {x : Nat} {l : List Nat} : fMem neg (N x) (eT l) h = .ok (.bl (neg ^^ l.contains x)) h := by
  unfold fMem
  have e : rdS h (eT l) = some (l.map N) := rfl
  rw [e]
  have e2 : D.plains (l.map N) 59 = true := plains_map (fun _ => rfl) l
  have e3 : deref h (N x) = N x := rfl
  simp only [e2, e3, Bool.and_true]
  rw [any_eqP (ek := N) (fun _ _ => eqv_N), any_mem]; rfl
theorem fMem_L {neg : Bool} {x : Nat} {l : List Nat} : fMem neg (N x) (eL l) h = .ok (.bl (neg ^^ l.contains x)) h := by
  unfold fMem
  have e : rdS h (eL l) = some (l.map N) := rfl
  rw [e]
  have e2 : D.plains (l.map N) 59 = true := plains_map (fun _ => rfl) l
  have e3 : deref h (N x) = N x := rfl
  simp only [e2, e3, Bool.and_true]
  rw [any_eqP (ek := N) (fun _ _ => eqv_N), any_mem]; rfl
/-- in a dict: frozen, or by its place -/
theorem fMem_K {κ β : Type} [BEq κ] [LawfulBEq κ] {ek : κ → D} {ev : β → D} (hq : ∀ a b, D.eqv (ek a) (ek b) = (a == b)) {neg : Bool} {s : κ} {W : List (κ × β)} {c : D} (ht : isTupD (ek s) = true) (hd : kdepth 8 (ek s) = true) (hs : rdS h c = none) (hc : rdD h c = some (W.map fun z => (ek z.1, ev z.2))) :
    fMem neg (ek s) c h = .ok (.bl (neg ^^ PF.hasK W s)) h := by
  unfold fMem
  rw [hs, hc]
  simp only [ht, hd, Bool.and_true, if_true]
  rw [kget_map hq beq_comm' s W]
  unfold PF.hasK
  cases W.lookup s <;> rfl
theorem fIx_K {κ β : Type} [BEq κ] [LawfulBEq κ] {ek : κ → D} {ev : β → D} (hq : ∀ a b, D.eqv (ek a) (ek b) = (a == b)) {s : κ} {v : β} {W : List (κ × β)} {c : D} (ht : isTupD (ek s) = true) (hd : kdepth 8 (ek s) = true) (hc : rdD h c = some (W.map fun z => (ek z.1, ev z.2))) (hv : W.lookup s = some v) :
    fIxD c (ek s) h = .ok (ev v) h := by
  unfold fIxD
  rw [hc]
  simp only [ht, hd, Bool.and_true, if_true]
  rw [kget_map hq beq_comm' s W, hv]; rfl
theorem fPut_K {κ β : Type} [BEq κ] [LawfulBEq κ] {ek : κ → D} {ev : β → D} (hq : ∀ a b, D.eqv (ek a) (ek b) = (a == b)) {s : κ} {v : β} {W : List (κ × β)} {l : Nat} (ht : isTupD (ek s) = true) (hi : ∀ i, ek s ≠ .int i) (hd : kdepth 8 (ek s) = true) (hc : h.get l = some (.dct (W.map fun z => (ek z.1, ev z.2)))) (hW : W.length < LIM) (hn : PF.hasK W s = false) :
    fPut (.loc l) (ek s) (ev v) h = some (h.set l (some (.dct ((W ++ [(s, v)]).map fun z => (ek z.1, ev z.2))))) := by
  have hx : isTupD (ek s) = true := ht
  cases hk : ek s with
  | tup xs =>
    unfold fPut
    simp only [hc]
    rw [← hk, ht, hd]
    simp only [Bool.and_true, Bool.true_and, List.length_map, decide_eq_true hW, if_true]
    rw [kput_map hq beq_comm' s v W hn]
  | _ => rw [hk] at hx; cases hx
/-- the numbers of a list by their place -/
theorem atI_map {en : α → D} {l : List α} {i : Nat} {a : α} (h : l[i]? = some a) : L2.atI (l.map en) (i : Int) = some (en a) := by
  have hi := (List.getElem?_eq_some_iff.mp h).1
  have : L2.ixN (l.map en).length (i : Int) = some i := by
    unfold L2.ixN
    simp [hi]
  unfold L2.atI
  rw [this]
  simp [h]
theorem fIx_T {en : α → D} {l : List α} {i : Nat} {a : α} (hi : l[i]? = some a) : fIxD (.tup (l.map en)) (N i) h = .ok (en a) h := by
  unfold fIxD
  simp only [rdD, fIx, rdS, atI_map hi]
theorem fIx_L {en : α → D} {l : List α} {i : Nat} {a : α} (hi : l[i]? = some a) : fIxD (.lst (l.map en)) (N i) h = .ok (en a) h := by
  unfold fIxD
  simp only [rdD, fIx, rdS, rdL, atI_map hi]
end
theorem fSub_N {i j : Nat} {h : Hm} (hj : j ≤ i) : fII (fun i j => some (i - j)) (N i) (N j) h = .ok (N (i - j)) h := by
  show Res.ok (D.int ((i : Int) - (j : Int))) h = _
  rw [show ((i : Int) - (j : Int)) = ((i - j : Nat) : Int) by omega]
theorem fLenI_ok {tbl : Nat → Option FD} {F : FD} {x : D} {h h1 : Hm} {j : Int} (e1 : (clsOf h x).bind tbl = some F) (e2 : F [x] h = .ok (.int j) h1) (h0 : 0 ≤ j) (h2 : j < 1000000) : fLenI tbl x h = .ok (.int j) h1 := by
  have e3 : (decide (0 ≤ j) && decide (j < B63)) = true := by
    unfold B63
    rw [Bool.and_eq_true]
    exact ⟨decide_eq_true (by omega), decide_eq_true (by omega)⟩
  simp only [fLenI, e1, e2, nox, Res.bind, e3, if_true]
theorem fAddG_I {i j : Int} {h : Hm} : fAddG (.int i) (.int j) h = .ok (.int (i + j)) h := rfl
end MP
end L2

set_option Elab.async false
set_option linter.all false
set_option maxRecDepth 100000
set_option maxHeartbeats 2000000
namespace L2
namespace MP
open PySem PySem.Spec PyProof.Rows
def eSs (l : List PF.Sit) : D := .tup (l.map eS)
def eO (l : List (List PF.Sit)) : D := .lst (l.map eSs)
def kW (W : List (PF.Sit × List (List PF.Sit))) : List (D × D) := W.map fun z => (eS z.1, eO z.2)
def eW (W : List (PF.Sit × List (List PF.Sit))) : D := .dct (kW W)
def kR (R : List (PF.Sit × Nat)) : List (D × D) := R.map fun z => (eS z.1, N z.2)
def eRk (R : List (PF.Sit × Nat)) : D := .dct (kR R)
/-- news -/
def eN (c a b : Nat) : D := .ins c [(.numbers, .tup [N a, N b])]
theorem low_eSs {n : Nat} {l : List PF.Sit} : D.low n (eSs l) = true := lows_map (fun _ => low_eS) l
theorem low_eO {n : Nat} {l : List (List PF.Sit)} : D.low n (eO l) = true := lows_map (fun _ => low_eSs) l
theorem lowk_map {α : Type} {f g : α → D} {n : Nat} (hf : ∀ a, D.low n (f a) = true) (hg : ∀ a, D.low n (g a) = true) : ∀ l : List α, D.lowk n (l.map fun a => (f a, g a)) = true
  | [] => rfl
  | a :: l => by simp [D.lowk, hf a, hg a, lowk_map hf hg l]
theorem low_eW {n : Nat} {W : List (PF.Sit × List (List PF.Sit))} : D.low n (eW W) = true := lowk_map (fun _ => low_eS) (fun _ => low_eO) W
theorem low_eRk {n : Nat} {R : List (PF.Sit × Nat)} : D.low n (eRk R) = true := lowk_map (fun _ => low_eS) (fun _ => rfl) R
theorem low_eN {n c a b : Nat} : D.low n (eN c a b) = true := rfl
section
variable {α : Type} {h : Hm}
theorem cut_take {xs : List α} {i : Nat} : cutD xs none (some (i : Int)) = xs.take i := by
  unfold cutD
  rw [HT.sIx_none, HT.sIx_nat, Nat.sub_zero, List.drop_zero]
  by_cases q : i ≤ xs.length
  · rw [Nat.min_eq_left q]
  · rw [Nat.min_eq_right (by omega), List.take_length, List.take_of_length_le (by omega)]
theorem cut_drop {xs : List α} {i : Nat} : cutD xs (some (i : Int)) none = xs.drop i := by
  unfold cutD
  rw [HT.sIx_none, HT.sIx_nat]
  by_cases q : i ≤ xs.length
  · rw [Nat.min_eq_left q]
    exact List.take_of_length_le (by simp)
  · rw [Nat.min_eq_right (by omega)]
    simp
    omega
theorem fSl_take {l : List Nat} {i : Nat} : fSl (eT l) none (some (i : Int)) h = .ok (eT (l.take i)) h := by
  show Res.ok (D.tup (cutD (l.map N) none (some (i : Int)))) h = _
  rw [cut_take, ← List.map_take]; rfl
theorem fSl_drop {l : List Nat} {i : Nat} : fSl (eT l) (some (i : Int)) none h = .ok (eT (l.drop i)) h := by
  show Res.ok (D.tup (cutD (l.map N) (some (i : Int)) none)) h = _
  rw [cut_drop, ← List.map_drop]; rfl
theorem plains_S {l : List PF.Sit} {n : Nat} : D.plains (l.map eS) (n + 2) = true := plains_map (fun _ => plain_eS) l
/-- sorted(...) of situations -/
theorem fSortA_S {x : D} {l : List PF.Sit} (hne : l ≠ []) (hl : l.length ≤ LIM) (hx : rdL h x = some (l.map eS)) (hs : rdS h x = some (l.map eS)) (hd : rdD h x = none) : fSortA [x] h = .ok (.lst ((PF.sortS l).map eS)) h := by
  have h1 : isDK x h = false := by unfold isDK; rw [hd]; rfl
  have h2 : isLI x h = false := by
    unfold isLI
    rw [hs]
    cases l with
    | nil => exact absurd rfl hne
    | cons s l => rfl
  unfold fSortA orL
  simp only [h1, Bool.false_eq_true, if_false]
  show (if isLI x h = true then _ else _) = _
  rw [h2]
  simp only [Bool.false_eq_true, if_false, f1, fSortD, hx, sortOk_S hl, if_true, sortD_S]
/-- a list that waits: is it empty? -/
theorem ne_nil_loc {l : Nat} {xs : List D} (hg : h.get l = some (.lst xs)) (hp : D.plains xs 59 = true) : fNe (.loc l) (.lst []) h = .ok (.bl (!xs.isEmpty)) h := by
  have e1 : deref h (.loc l) = .lst xs := by simp only [deref, hg]
  have e2 : deref h (.lst []) = .lst [] := rfl
  rw [fNe_plain (by rw [e1]; exact hp) (by rw [e2]; rfl), e1, e2]
  cases xs <;> rfl
theorem ne_nil_lst {xs : List D} (hp : D.plains xs 59 = true) : fNe (.lst xs) (.lst []) h = .ok (.bl (!xs.isEmpty)) h := by
  have e1 : deref h (.lst xs) = .lst xs := rfl
  have e2 : deref h (.lst []) = .lst [] := rfl
  rw [fNe_plain (by rw [e1]; exact hp) (by rw [e2]; rfl), e1, e2]
  cases xs <;> rfl
theorem pop_loc {en : α → D} {l : Nat} {xs : List α} {a : α} (hg : h.get l = some (.lst (xs.map en))) (ha : xs.getLast? = some a) : fPop (.loc l) [] h = .ok (en a) (h.set l (some (.lst (xs.dropLast.map en)))) := by
  unfold fPop
  simp only [hg]
  have : (xs.map en)[(xs.map en).length - 1]? = some (en a) := by
    rw [List.length_map, List.getElem?_map]
    rw [List.getLast?_eq_getElem?] at ha
    rw [ha]; rfl
  rw [this]
  simp only [List.map_dropLast]
theorem ext_loc {l : Nat} {xs ys : List D} (hg : h.get l = some (.lst xs)) (hl : xs.length + ys.length ≤ LIM) : fExtG (.loc l) [.tup ys] h = .ok .non (h.set l (some (.lst (xs ++ ys)))) := by
  unfold fExtG
  simp only [hg, if_pos hl]
theorem extL_loc {l : Nat} {xs ys : List D} (hg : h.get l = some (.lst xs)) (hl : xs.length + ys.length ≤ LIM) : fExtG (.loc l) [.lst ys] h = .ok .non (h.set l (some (.lst (xs ++ ys)))) := by
  unfold fExtG fExt
  simp only [hg, if_pos hl]
theorem app_loc {l : Nat} {xs : List D} {y : D} (hg : h.get l = some (.lst xs)) (hl : xs.length < LIM) : fApp (.loc l) [y] h = .ok .non (h.set l (some (.lst (xs ++ [y])))) := by
  unfold fApp
  simp only [hg, if_pos hl]
theorem isL_loc {l : Nat} {xs : List D} (hg : h.get l = some (.lst xs)) : isListD h (.loc l) = true := by
  simp only [isListD, rdL, hg, Option.isSome]
theorem rdS_loc_dct {l : Nat} {kvs : List (D × D)} (hg : h.get l = some (.dct kvs)) : rdS h (.loc l) = none := by
  show rdL h (.loc l) = none
  simp only [rdL, hg]
theorem rdD_loc {l : Nat} {kvs : List (D × D)} (hg : h.get l = some (.dct kvs)) : rdD h (.loc l) = some kvs := by
  simp only [rdD, hg]
end
/-- method of a list -/
theorem bm_list {F : FM} {o a : ME} {e : Ev} {h h1 h2 h3 : Hm} {d x v : D} (ho : o e h = .ok d h1) (hl : isListD h1 d = true) (ha : a e h1 = .ok x h2) (hf : F d [x] h2 = .ok v h3) : mBM isListD F o (aCons a aNil) e h = .ok v h3 := by
  simp only [mBM, ho, Res.bind, hl, if_true, aCons, aNil, ha, hf]
theorem bm_list0 {F : FM} {o : ME} {e : Ev} {h h1 h2 : Hm} {d v : D} (ho : o e h = .ok d h1) (hl : isListD h1 d = true) (hf : F d [] h1 = .ok v h2) : mBM isListD F o aNil e h = .ok v h2 := by
  simp only [mBM, ho, Res.bind, hl, if_true, aNil, hf]
end MP
end L2

set_option Elab.async false
set_option linter.all false
set_option maxRecDepth 100000
set_option maxHeartbeats 2000000
namespace L2
namespace MP
open PySem PySem.Spec PyProof.Rows
/-- a loop as a fold, by how far it got -/
theorem forL_foldP {α σ : Type} {en : α → D} {t : Tg} {body : MS} (ρ : σ → Ev) (η : σ → Hm) (step : σ → α → σ) (s0 : σ) : ∀ (post pre : List α), (∀ pre' x post', pre ++ post = pre' ++ x :: post' → ∃ e1, t (en x) (ρ (pre'.foldl step s0)) = some e1 ∧ body e1 (η (pre'.foldl step s0)) = .nx (ρ (step (pre'.foldl step s0) x)) (η (step (pre'.foldl step s0) x))) →
    forL t body (post.map en) (ρ (pre.foldl step s0)) (η (pre.foldl step s0)) = .nx (ρ ((pre ++ post).foldl step s0)) (η ((pre ++ post).foldl step s0))
  | [], pre, _ => by rw [List.append_nil]; rfl
  | x :: post, pre, H => by
    obtain ⟨e1, h1, h2⟩ := H pre x post rfl
    rw [List.map_cons]
    unfold forL
    rw [h1]
    simp only [h2]
    have ih := forL_foldP ρ η step s0 post (pre ++ [x]) (fun pre' y post' e => H pre' y post' (by rw [← e]; simp))
    rw [List.foldl_append, List.foldl_cons, List.foldl_nil] at ih
    rw [ih]
    simp
end MP
end L2

set_option Elab.async false
set_option linter.all false
set_option maxRecDepth 100000
set_option maxHeartbeats 4000000
namespace L2
namespace MP
open PySem PySem.Spec PyProof.Rows
/-! ### how readings go, step by step -/
theorem tM1 {F : D → Hm → Res D} {a : ME} {e : Ev} {h h1 : Hm} {x : D} {r : Res D} (ha : a e h = .ok x h1) (hf : F x h1 = r) : m1 F a e h = r := by
  unfold m1
  rw [ha]; exact hf
theorem tM2 {F : D → D → Hm → Res D} {a b : ME} {e : Ev} {h h1 h2 : Hm} {x y : D} {r : Res D} (ha : a e h = .ok x h1) (hb : b e h1 = .ok y h2) (hf : F x y h2 = r) : m2 F a b e h = r := by
  unfold m2
  rw [ha]
  show (b e h1).bind _ = _
  rw [hb]; exact hf
theorem tB {a : ME} {e : Ev} {h h1 : Hm} {b : Bool} (ha : a e h = .ok (.bl b) h1) : mB a e h = .ok b h1 := by
  unfold mB
  rw [ha]; rfl
theorem tTr {a : ME} {e : Ev} {h h1 : Hm} {b : Bool} (ha : a e h = .ok (.bl b) h1) : mTr a e h = .ok b h1 := by
  unfold mTr
  rw [ha]; rfl
theorem tNot {a : MT} {e : Ev} {h h1 : Hm} {b : Bool} (ha : a e h = .ok b h1) : mNotT a e h = .ok (!b) h1 := by
  unfold mNotT
  rw [ha]; rfl
theorem tL1 {F : FD} {x : ME} {e : Ev} {h h1 h2 : Hm} {u w : D} (hx : x e h = .ok u h1) (hf : F [u] h1 = .ok w h2) : mL F (aCons x aNil) e h = .ok w h2 := by
  simp only [mL, aCons, aNil, hx, Res.bind, hf]
theorem tL2 {F : FD} {x y : ME} {e : Ev} {h h1 h2 h3 : Hm} {u v w : D} (hx : x e h = .ok u h1) (hy : y e h1 = .ok v h2) (hf : F [u, v] h2 = .ok w h3) : mL F (aCons x (aCons y aNil)) e h = .ok w h3 := by
  simp only [mL, aCons, aNil, hx, hy, Res.bind, hf]
theorem tL3 {F : FD} {x y z : ME} {e : Ev} {h h1 h2 h3 h4 : Hm} {u v w r : D} (hx : x e h = .ok u h1) (hy : y e h1 = .ok v h2) (hz : z e h2 = .ok w h3) (hf : F [u, v, w] h3 = .ok r h4) : mL F (aCons x (aCons y (aCons z aNil))) e h = .ok r h4 := by
  simp only [mL, aCons, aNil, hx, hy, hz, Res.bind, hf]
theorem tV {i : Nat} {d : D} {e : Ev} {h : Hm} (he : e[i]? = some (some d)) : mVar i e h = .ok d h := by simp [mVar, he]
theorem tSet {i : Nat} {a : ME} {e : Ev} {h h1 : Hm} {v : D} (ha : a e h = .ok v h1) : sSet i a e h = .nx (e.set i (some v)) h1 := by simp [sSet, ha]
theorem tRet {a : ME} {e : Ev} {h h1 : Hm} {v : D} (ha : a e h = .ok v h1) : sRet a e h = .rt v h1 := by simp [sRet, ha]
theorem tExpr {a : ME} {e : Ev} {h h1 : Hm} {v : D} (ha : a e h = .ok v h1) : sExpr a e h = .nx e h1 := by simp [sExpr, ha]
theorem tIfF {c : MT} {a b : MS} {e : Ev} {h h1 : Hm} (hc : c e h = .ok false h1) : sIf c a b e h = b e h1 := by simp [sIf, hc]
theorem tIfT {c : MT} {a b : MS} {e : Ev} {h h1 : Hm} (hc : c e h = .ok true h1) : sIf c a b e h = a e h1 := by simp [sIf, hc]
theorem tAndF {a b : MT} {e : Ev} {h h1 : Hm} (ha : a e h = .ok false h1) : mAndT a b e h = .ok false h1 := by
  unfold mAndT
  rw [ha]; rfl
theorem tAndT {a b : MT} {e : Ev} {h h1 : Hm} {r : Res Bool} (ha : a e h = .ok true h1) (hb : b e h1 = r) : mAndT a b e h = r := by
  unfold mAndT
  rw [ha]; exact hb
theorem tSeqR {a b : MS} {e : Ev} {h h1 : Hm} {v : D} (ha : a e h = .rt v h1) : sSeq a b e h = .rt v h1 := by simp [sSeq, ha]
theorem tTup2 {A B : ME} {e : Ev} {h g1 g2 : Hm} {x y : D} (a : A e h = .ok x g1) (b : B e g1 = .ok y g2) : mTup (aCons A (aCons B aNil)) e h = .ok (.tup [x, y]) g2 := by
  have c : fTup [x, y] g2 = .ok (.tup [x, y]) g2 := if_pos (by simp [LIM])
  simp only [mTup, mL, aCons, aNil, a, b, Res.bind, c]
theorem tTup3 {A B C : ME} {e : Ev} {h g1 g2 g3 : Hm} {x y z : D} (a : A e h = .ok x g1) (b : B e g1 = .ok y g2) (c : C e g2 = .ok z g3) : mTup (aCons A (aCons B (aCons C aNil))) e h = .ok (.tup [x, y, z]) g3 := by
  have d : fTup [x, y, z] g3 = .ok (.tup [x, y, z]) g3 := if_pos (by simp [LIM])
  simp only [mTup, mL, aCons, aNil, a, b, c, Res.bind, d]
theorem tAsg {a : ME} {t : Tg} {e e1 : Ev} {h h1 : Hm} {x : D} (ha : a e h = .ok x h1) (ht : t x e = some e1) : sAsg a t e h = .nx e1 h1 := by
  unfold sAsg
  rw [ha]
  simp only [ht]
theorem tTup0 {e : Ev} {h : Hm} : mTup aNil e h = .ok (.tup []) h := by
  have c : fTup [] h = .ok (.tup []) h := if_pos (by simp [LIM])
  simp only [mTup, mL, aNil, Res.bind, c]
theorem tLst0 {e : Ev} {h : Hm} : mLst aNil e h = .ok (.lst []) h := by
  have c : fLst [] h = .ok (.lst []) h := if_pos (by simp [LIM])
  simp only [mLst, mL, aNil, Res.bind, c]
theorem tAnd {a b : ME} {e : Ev} {h h1 : Hm} {x : Bool} {y : Bool} (ha : a e h = .ok (.bl x) h1) (hb : x = true → b e h1 = .ok (.bl y) h1) : mAnd a b e h = .ok (.bl (x && y)) h1 := by
  unfold mAnd
  rw [ha]
  cases x with
  | true => exact hb rfl
  | false => rfl
theorem tL4 {F : FD} {x y z a : ME} {e : Ev} {h h1 h2 h3 h4 h5 : Hm} {u v w t r : D} (hx : x e h = .ok u h1) (hy : y e h1 = .ok v h2) (hz : z e h2 = .ok w h3) (ha : a e h3 = .ok t h4) (hf : F [u, v, w, t] h4 = .ok r h5) : mL F (aCons x (aCons y (aCons z (aCons a aNil)))) e h = .ok r h5 := by
  simp only [mL, aCons, aNil, hx, hy, hz, ha, Res.bind, hf]
theorem tL5 {F : FD} {x y z a b : ME} {e : Ev} {h h1 h2 h3 h4 h5 h6 : Hm} {u v w t s r : D} (hx : x e h = .ok u h1) (hy : y e h1 = .ok v h2) (hz : z e h2 = .ok w h3) (ha : a e h3 = .ok t h4) (hb : b e h4 = .ok s h5) (hf : F [u, v, w, t, s] h5 = .ok r h6) : mL F (aCons x (aCons y (aCons z (aCons a (aCons b aNil))))) e h = .ok r h6 := by
  simp only [mL, aCons, aNil, hx, hy, hz, ha, hb, Res.bind, hf]
theorem tA2 {x y : ME} {e : Ev} {h h1 h2 : Hm} {u v : D} (hx : x e h = .ok u h1) (hy : y e h1 = .ok v h2) : aCons x (aCons y aNil) e h = .ok [u, v] h2 := by
  simp only [aCons, aNil, hx, hy, Res.bind]
theorem tA3 {x y z : ME} {e : Ev} {h h1 h2 h3 : Hm} {u v w : D} (hx : x e h = .ok u h1) (hy : y e h1 = .ok v h2) (hz : z e h2 = .ok w h3) : aCons x (aCons y (aCons z aNil)) e h = .ok [u, v, w] h3 := by
  simp only [aCons, aNil, hx, hy, hz, Res.bind]
theorem tCallO {tbl : Nat → Option FD} {F : FD} {o : ME} {ma : MA} {c : Nat} {fs : List (Fld × D)} {e : Ev} {h h1 h2 : Hm} {as : List D} {r : Res D} (ho : o e h = .ok (.ins c fs) h1) (ht : tbl c = some F) (ha : ma e h1 = .ok as h2) (hf : F (.ins c fs :: as) h2 = r) : mCallO tbl o ma e h = r := by
  unfold mCallO
  rw [ho]
  simp only [Res.bind, ht, ha]
  exact hf
theorem tPar2 {i j : Nat} {a b : ME} {e : Ev} {h h1 h2 : Hm} {u v : D} (ha : a e h = .ok u h1) (hb : b e h1 = .ok v h2) : sPar [i, j] (aCons a (aCons b aNil)) e h = .nx ((e.set i (some u)).set j (some v)) h2 := by
  unfold sPar
  rw [tA2 ha hb]
theorem tMIfT {c : MT} {a b : ME} {e : Ev} {h h1 : Hm} {r : Res D} (hc : c e h = .ok true h1) (ha : a e h1 = r) : mIf c a b e h = r := by
  unfold mIf
  rw [hc]; exact ha
theorem tMIfF {c : MT} {a b : ME} {e : Ev} {h h1 : Hm} {r : Res D} (hc : c e h = .ok false h1) (ha : b e h1 = r) : mIf c a b e h = r := by
  unfold mIf
  rw [hc]; exact ha
theorem tTup1 {A : ME} {e : Ev} {h g1 : Hm} {x : D} (a : A e h = .ok x g1) : mTup (aCons A aNil) e h = .ok (.tup [x]) g1 := by
  have c : fTup [x] g1 = .ok (.tup [x]) g1 := if_pos (by simp [LIM])
  simp only [mTup, mL, aCons, aNil, a, Res.bind, c]
theorem tLst1 {A : ME} {e : Ev} {h g1 : Hm} {x : D} (a : A e h = .ok x g1) : mLst (aCons A aNil) e h = .ok (.lst [x]) g1 := by
  have c : fLst [x] g1 = .ok (.lst [x]) g1 := if_pos (by simp [LIM])
  simp only [mLst, mL, aCons, aNil, a, Res.bind, c]
theorem tOr {a b : MT} {e : Ev} {h h1 : Hm} {r : Res Bool} (ha : a e h = .ok false h1) (hb : b e h1 = r) : mOrT a b e h = r := by
  unfold mOrT
  rw [ha]; exact hb
theorem fNe_S {s t : PF.Sit} {h : Hm} : fNe (eS s) (eS t) h = .ok (.bl (!(s == t))) h :=
  (fNe_plain (h := h) (a := eS s) (b := eS t) (plain_eS (n := 58)) (plain_eS (n := 58))).trans (by rw [show deref h (eS s) = eS s from rfl, show deref h (eS t) = eS t from rfl, eqv_eS])
theorem fNe_T {s t : List Nat} {h : Hm} : fNe (eT s) (eT t) h = .ok (.bl (!(s == t))) h :=
  (fNe_plain (h := h) (a := eT s) (b := eT t) (plain_eT (n := 59)) (plain_eT (n := 59))).trans (by rw [show deref h (eT s) = eT s from rfl, show deref h (eT t) = eT t from rfl, eqv_eT])
theorem fAdd_T1 {r : List Nat} {o : Nat} {h : Hm} (hl : r.length < 1000) : fAddG (eT r) (.tup [N o]) h = .ok (eT (r ++ [o])) h := by
  have : (r.map N ++ [N o]).length ≤ LIM := by unfold LIM; simp; omega
  simp only [fAddG, lstH, fAdd, eT]
  rw [if_pos (by simpa using this)]
  simp
theorem fAdd_L {r s : List Nat} {h : Hm} (hl : r.length + s.length < 1000) : fAddG (eL r) (eL s) h = .ok (eL (r ++ s)) h := by
  have : (r.map N).length + (s.map N).length ≤ LIM := by unfold LIM; simp; omega
  simp only [fAddG, lstH, eL]
  rw [if_pos this, List.map_append]
theorem tSlT {r : List Nat} {i k : Nat} {n : ME} {e : Ev} {h : Hm} (hi : e[i]? = some (some (eT r))) (hn : n e h = .ok (N k) h) : mSl (mVar i) (oNone) (oSome n) e h = .ok (eT (r.take k)) h := by
  simp only [mSl, mVar, hi, Res.bind, oNone, oSome, hn, fSl_take]
theorem tSlD {r : List Nat} {i k : Nat} {n : ME} {e : Ev} {h : Hm} (hi : e[i]? = some (some (eT r))) (hn : n e h = .ok (N k) h) : mSl (mVar i) (oSome n) (oNone) e h = .ok (eT (r.drop k)) h := by
  simp only [mSl, mVar, hi, Res.bind, oNone, oSome, hn, fSl_drop]
def eLs (l : List PF.Sit) : D := .lst (l.map eS)
theorem eqv_eLs {l m : List PF.Sit} : D.eqv (eLs l) (eLs m) = (l == m) := eqvs_map (fun _ _ => eqv_eS) l m
theorem plain_eLs {l : List PF.Sit} {n : Nat} : D.plain (eLs l) (n + 3) = true := plains_S
theorem fMem_Ss {neg : Bool} {t : PF.Sit} {l : List PF.Sit} {h : Hm} : fMem neg (eS t) (eSs l) h = .ok (.bl (neg ^^ l.contains t)) h := by
  have e1 : rdS h (eSs l) = some (l.map eS) := rfl
  have e2 : D.plain (deref h (eS t)) 60 = true := plain_eS (n := 58)
  have e3 : D.plains (l.map eS) 59 = true := plains_S (n := 57)
  have e4 := any_eqP (ek := eS) (fun _ _ => eqv_eS) t l
  simp only [fMem, e1]
  rw [if_pos (by rw [e2, e3]; rfl), show deref h (eS t) = eS t from rfl, e4, any_mem]
theorem fNe_Ls0 {l : List PF.Sit} {h : Hm} : fNe (eLs l) (.lst []) h = .ok (.bl (!(l == []))) h :=
  (fNe_plain (h := h) (a := eLs l) (b := .lst []) (plain_eLs (n := 57)) rfl).trans (by rw [show deref h (eLs l) = eLs l from rfl, show deref h (.lst []) = eLs [] from rfl, eqv_eLs])
theorem fMem_two {l : List PF.Sit} {t : PF.Sit} {h : Hm} (hl : l = [] ∨ l = [t]) : fMem false (eLs l) (.tup [.lst [], .lst [eS t]]) h = .ok (.bl true) h := by
  have e1 : rdS h (.tup [.lst [], .lst [eS t]]) = some ([[], [t]].map eLs) := rfl
  have e2 : D.plain (deref h (eLs l)) 60 = true := plain_eLs (n := 57)
  have e3 : D.plains ([[], [t]].map eLs) 59 = true := plains_map (fun _ => plain_eLs (n := 56)) _
  have e4 := any_eqP (ek := eLs) (fun _ _ => eqv_eLs) l [[], [t]]
  simp only [fMem, e1]
  rw [if_pos (by rw [e2, e3]; rfl), show deref h (eLs l) = eLs l from rfl, e4]
  rcases hl with rfl | rfl <;> simp
/-! ### slices, stars, sorted -/
theorem fSl_takeG {α : Type} {en : α → D} {l : List α} {i : Nat} {h : Hm} : fSl (.tup (l.map en)) none (some (i : Int)) h = .ok (.tup ((l.take i).map en)) h := by
  show Res.ok (D.tup (cutD (l.map en) none (some (i : Int)))) h = _
  rw [cut_take, ← List.map_take]
theorem fSl_dropG {α : Type} {en : α → D} {l : List α} {i : Nat} {h : Hm} : fSl (.tup (l.map en)) (some (i : Int)) none h = .ok (.tup ((l.drop i).map en)) h := by
  show Res.ok (D.tup (cutD (l.map en) (some (i : Int)) none)) h = _
  rw [cut_drop, ← List.map_drop]
theorem tSlTG {α : Type} {en : α → D} {l : List α} {a n : ME} {k : Nat} {e : Ev} {h h1 h2 : Hm} (ha : a e h = .ok (.tup (l.map en)) h1) (hn : n e h1 = .ok (N k) h2) : mSl a oNone (oSome n) e h = .ok (.tup ((l.take k).map en)) h2 := by
  simp only [mSl, ha, Res.bind, oNone, oSome, hn, fSl_takeG]
theorem tSlDG {α : Type} {en : α → D} {l : List α} {a n : ME} {k : Nat} {e : Ev} {h h1 h2 : Hm} (ha : a e h = .ok (.tup (l.map en)) h1) (hn : n e h1 = .ok (N k) h2) : mSl a (oSome n) oNone e h = .ok (.tup ((l.drop k).map en)) h2 := by
  simp only [mSl, ha, Res.bind, oNone, oSome, hn, fSl_dropG]
theorem tStar {a : ME} {r : MA} {e : Ev} {h h1 h2 : Hm} {x : D} {xs ys : List D} (ha : a e h = .ok x h1) (hx : seqOf x = some ys) (hr : r e h1 = .ok xs h2) : aStar a r e h = .ok (ys ++ xs) h2 := by
  unfold aStar
  rw [ha]
  simp only [Res.bind, hx, hr]
theorem tCons {a : ME} {r : MA} {e : Ev} {h h1 h2 : Hm} {x : D} {xs : List D} (ha : a e h = .ok x h1) (hr : r e h1 = .ok xs h2) : aCons a r e h = .ok (x :: xs) h2 := by
  simp only [aCons, ha, Res.bind, hr]
theorem tNil {e : Ev} {h : Hm} : aNil e h = .ok [] h := rfl
theorem tTupA {r : MA} {e : Ev} {h h1 : Hm} {xs : List D} (hr : r e h = .ok xs h1) (hl : xs.length ≤ 1000) : mTup r e h = .ok (.tup xs) h1 := by
  have c : fTup xs h1 = .ok (.tup xs) h1 := if_pos (by unfold LIM; omega)
  simp only [mTup, mL, hr, Res.bind, c]
theorem tLstA {r : MA} {e : Ev} {h h1 : Hm} {xs : List D} (hr : r e h = .ok xs h1) (hl : xs.length ≤ 1000) : mLst r e h = .ok (.lst xs) h1 := by
  have c : fLst xs h1 = .ok (.lst xs) h1 := if_pos (by unfold LIM; omega)
  simp only [mLst, mL, hr, Res.bind, c]
theorem insI_N (x : Nat) : ∀ {l : List Nat}, x ∉ l → insI (x : Int) (l.map fun n : Nat => (n : Int)) = (PF.insU x l).map fun n : Nat => (n : Int)
  | [], _ => rfl
  | y :: l, h => by
    simp only [List.mem_cons, not_or] at h
    rw [List.map_cons]
    unfold insI PF.insU
    by_cases q : x < y
    · rw [if_pos (by omega), if_pos q, List.map_cons, List.map_cons]
    · rw [if_neg (by omega), if_neg q, if_neg h.1, insI_N x h.2, List.map_cons]
theorem sortI_N : ∀ {l : List Nat}, l.Nodup → sortI (l.map fun n : Nat => (n : Int)) = (PF.sortU l).map fun n : Nat => (n : Int)
  | [], _ => rfl
  | x :: l, h => by
    rw [List.nodup_cons] at h
    rw [List.map_cons]
    unfold sortI PF.sortU
    rw [sortI_N h.2, insI_N x fun q => h.1 (PF.mem_sortU.mp q)]
theorem fSortA_N {x : D} {l : List Nat} {h : Hm} (hn : l.Nodup) (hl : l.length < 64) (hx : rdL h x = some (l.map N)) (hs : rdS h x = some (l.map N)) (hd : rdD h x = none) : fSortA [x] h = .ok (eL (PF.sortU l)) h := by
  unfold fSortA orL
  have e1 : isDK x h = false := by unfold isDK; rw [hd]; rfl
  have e2 : isLI x h = true := by unfold isLI; rw [hs]; simp [ints_N]
  simp only [e1, e2, if_true, f1]
  simp only [Bool.false_eq_true, if_false, hx, fSort, hs, Option.bind_some, ints_N, List.length_map, hl, if_true, sortI_N hn]
  rw [map_int]; rfl
/-! ### what may be shown -/
/-- the text of it is short -/
structure ShD (k w : Nat) (d : D) : Prop where
  ex : ∃ p, D.pd d = some p ∧ p.showable = true ∧ p.canLay0 = true ∧ p.intsShort 13 = true ∧ p.depth ≤ k ∧ p.weight ≤ w
  same : D.same d d = true
structure ShDs (k w : Nat) (ds : List D) : Prop where
  ex : ∃ ps, D.pds ds = some ps ∧ PyData.showableAll ps = true ∧ PyData.canLayAll0 ps = true ∧ PyData.intsShortAll 13 ps = true ∧ PyData.depthAll ps ≤ k ∧ PyData.weightAll ps ≤ w
  same : D.sames ds ds = true
theorem ShD.ok {k w : Nat} {d : D} (h : ShD k w d) (hk : k ≤ 50) (hw : w ≤ 1000000) : showOk d = true := by
  obtain ⟨p, e, a, b, c, e1, e2⟩ := h.ex
  unfold showOk
  rw [e]
  simp only [PyData.layable0, a, b, c, Bool.true_and, Bool.and_true, Bool.and_eq_true, decide_eq_true_eq]
  omega
theorem short_nat : ∀ n : Nat, n < 1000 → PyData.showable (.int (n : Int)) = true ∧ PyData.intsShort 13 (.int (n : Int)) = true ∧ PyData.weight (.int (n : Int)) ≤ 10 := by decide +kernel
theorem ShD.nat {k n : Nat} (h : n < 1000) : ShD k 10 (N n) := by
  obtain ⟨a, b, c⟩ := short_nat n h
  exact ⟨⟨_, rfl, a, rfl, b, by simp [PyData.depth], c⟩, by simp [D.same]⟩
theorem ShD.mono {k w k' w' : Nat} {d : D} (h : ShD k w d) (hk : k ≤ k') (hw : w ≤ w') : ShD k' w' d := by
  obtain ⟨p, e, a, b, c, e1, e2⟩ := h.ex
  exact ⟨⟨p, e, a, b, c, by omega, by omega⟩, h.same⟩
theorem ShD.non {k w : Nat} : ShD k w .non := ⟨⟨_, rfl, rfl, rfl, rfl, by simp [PyData.depth], by simp [PyData.weight]⟩, rfl⟩
theorem ShD.bl {k w : Nat} {b : Bool} : ShD k w (.bl b) := ⟨⟨_, rfl, rfl, rfl, rfl, by simp [PyData.depth], by simp [PyData.weight]⟩, by cases b <;> rfl⟩
theorem ShDs.nil {k w : Nat} : ShDs k w [] := ⟨⟨[], rfl, rfl, rfl, rfl, by simp [PyData.depthAll], by simp [PyData.weightAll]⟩, rfl⟩
theorem ShDs.cons {k w w' : Nat} {d : D} {ds : List D} (h : ShD k w d) (hs : ShDs k w' ds) : ShDs k (w + 1 + w') (d :: ds) := by
  obtain ⟨p, e, a, b, c, e1, e2⟩ := h.ex
  obtain ⟨ps, e', a', b', c', e1', e2'⟩ := hs.ex
  refine ⟨⟨p :: ps, by simp [D.pds, e, e'], by rw [PyData.showableAll, a, a']; rfl, by rw [PyData.canLayAll0, b, b']; rfl, by rw [PyData.intsShortAll, c, c']; rfl, ?_, ?_⟩, ?_⟩
  · rw [PyData.depthAll]; omega
  · rw [PyData.weightAll]; omega
  · rw [D.sames, h.same, hs.same]; rfl
theorem ShDs.map {α : Type} {f : α → D} {k w : Nat} : ∀ {l : List α}, (∀ x ∈ l, ShD k w (f x)) → ShDs k ((w + 1) * l.length) (l.map f)
  | [], _ => .nil
  | x :: l, h => by
    have a := ShDs.cons (h x (by simp)) (ShDs.map (l := l) fun y hy => h y (by simp [hy]))
    have e : w + 1 + (w + 1) * l.length = (w + 1) * (x :: l).length := by
      rw [List.length_cons, Nat.mul_add, Nat.mul_one, Nat.add_comm]
    rw [e] at a
    exact a
theorem ShDs.mono {k w k' w' : Nat} {d : List D} (h : ShDs k w d) (hk : k ≤ k') (hw : w ≤ w') : ShDs k' w' d := by
  obtain ⟨p, e, a, b, c, e1, e2⟩ := h.ex
  exact ⟨⟨p, e, a, b, c, by omega, by omega⟩, h.same⟩
theorem ShD.tup {k w : Nat} {ds : List D} (h : ShDs k w ds) : ShD (k + 1) w (.tup ds) := by
  obtain ⟨p, e, a, b, c, e1, e2⟩ := h.ex
  refine ⟨⟨.tuple p, by simp [D.pd, e], by simpa [PyData.showable] using a, by simpa [PyData.canLay0] using b, by simpa [PyData.intsShort] using c, ?_, by simpa [PyData.weight] using e2⟩, by simpa [D.same] using h.same⟩
  simp only [PyData.depth]; omega
theorem ShD.lst {k w : Nat} {ds : List D} (h : ShDs k w ds) : ShD (k + 1) w (.lst ds) := by
  obtain ⟨p, e, a, b, c, e1, e2⟩ := h.ex
  refine ⟨⟨.list p, by simp [D.pd, e], by simpa [PyData.showable] using a, by simpa [PyData.canLay0] using b, by simpa [PyData.intsShort] using c, ?_, by simpa [PyData.weight] using e2⟩, by simpa [D.same] using h.same⟩
  simp only [PyData.depth]; omega
theorem ShD.str {k w : Nat} {s : List Nat} (h : (PyData.canLay0 (.str ⟨s.toArray⟩)) = true) (hl : s.length ≤ w) : ShD k w (.str s) :=
  ⟨⟨_, rfl, rfl, h, rfl, by simp [PyData.depth], by simpa [PyData.weight] using hl⟩, by simp [D.same]⟩
theorem ShD.eT {k : Nat} {l : List Nat} (h : ∀ x ∈ l, x < 1000) : ShD (k + 1) (11 * l.length) (eT l) := .tup (.map fun x hx => .nat (h x hx))
theorem ShD.eL {k : Nat} {l : List Nat} (h : ∀ x ∈ l, x < 1000) : ShD (k + 1) (11 * l.length) (eL l) := .lst (.map fun x hx => .nat (h x hx))
theorem mSame_ok {a b : ME} {e : Ev} {h h1 h2 : Hm} {d : D} (ha : a e h = .ok d h1) (hb : b e h1 = .ok d h2) (hd : deref h1 d = d) (hd2 : deref h2 d = d) {k w : Nat} (hs : ShD k w d) (hk : k ≤ 50 := by omega) (hw : w ≤ 1000000 := by omega) : mSame a b e h = .ok (.bl true) h2 := by
  unfold mSame
  rw [ha]
  simp only [Res.bind, hd, hs.ok hk hw, if_true, hb, hd2, hs.same]
end MP
end L2

set_option Elab.async false
set_option linter.all false
set_option maxRecDepth 100000
set_option maxHeartbeats 2000000
namespace L2
namespace MP
namespace Law
open PySem PySem.Spec PyProof.Rows
structure B (g : GX) : Prop where
  cf : CF g
  isf : IsF g isT
  f_all : g.mg "all" = none
  f_any : g.mg "any" = none
  f_bool : g.mg "bool" = none
  f_int : g.mg "int" = none
  f_isinstance : g.mg "isinstance" = none
  f_len : g.mg "len" = none
  f_list : g.mg "list" = none
  f_max : g.mg "max" = none
  f_min : g.mg "min" = none
  f_range : g.mg "range" = none
  f_repr : g.mg "repr" = none
  f_set : g.mg "set" = none
  f_sorted : g.mg "sorted" = none
  f_tuple : g.mg "tuple" = none
  i_MOST : ∃ t, g.mg "MOST" = some (.int 4 t)
  i_MOST_ORDERS : ∃ t, g.mg "MOST_ORDERS" = some (.int 3 t)
  i_MOST_PLACES : ∃ t, g.mg "MOST_PLACES" = some (.int 6 t)
  k_Plant : g.ca 0 = some (He.ga g.K "Plant")
  c_Plant : ∃ C, g.mg "Plant" = some (.ref C) ∧ g.ca 0 = some C
  m_Plant : Mk g.K (He.ga g.K "Plant") (He.ma g.K (He.ga g.K "Plant") "__init__")
  g_Plant : g.mg "Plant" = some (.ref (He.ga g.K "Plant"))
  k_News : g.ca 1 = some (He.ga g.K "News")
  c_News : ∃ C, g.mg "News" = some (.ref C) ∧ g.ca 1 = some C
  k_Late : g.ca 2 = some (He.ga g.K "Late")
  c_Late : ∃ C, g.mg "Late" = some (.ref C) ∧ g.ca 2 = some C
  m_Late : Mk g.K (He.ga g.K "Late") (He.ma g.K (He.ga g.K "Late") "__init__")
  g_Late : g.mg "Late" = some (.ref (He.ga g.K "Late"))
  k_Lost : g.ca 3 = some (He.ga g.K "Lost")
  c_Lost : ∃ C, g.mg "Lost" = some (.ref C) ∧ g.ca 3 = some C
  m_Lost : Mk g.K (He.ga g.K "Lost") (He.ma g.K (He.ga g.K "Lost") "__init__")
  g_Lost : g.mg "Lost" = some (.ref (He.ga g.K "Lost"))
  k_LateLost : g.ca 4 = some (He.ga g.K "LateLost")
  c_LateLost : ∃ C, g.mg "LateLost" = some (.ref C) ∧ g.ca 4 = some C
  m_LateLost : Mk g.K (He.ga g.K "LateLost") (He.ma g.K (He.ga g.K "LateLost") "__init__")
  g_LateLost : g.mg "LateLost" = some (.ref (He.ga g.K "LateLost"))
  x_NoMarks : XF g "NoMarks" 22
  x_NoMoves : XF g "NoMoves" 21
  x_NoNumber : XF g "NoNumber" 28
  x_NoOrder : XF g "NoOrder" 25
  x_NoPlant : XF g "NoPlant" 23
  x_NoSituation : XF g "NoSituation" 30
  x_TooMuch : XF g "TooMuch" 31
  p_Plant_orders : PropOf g.K (He.ga g.K "Plant") "orders" (pAd g.K (He.ga g.K "Plant") "orders") (gAd g.K (He.ga g.K "Plant") "orders")
  p_Plant_places : PropOf g.K (He.ga g.K "Plant") "places" (pAd g.K (He.ga g.K "Plant") "places") (gAd g.K (He.ga g.K "Plant") "places")
  p_LateLost_late : PropOf g.K (He.ga g.K "LateLost") "late" (pAd g.K (He.ga g.K "News") "late") (gAd g.K (He.ga g.K "News") "late")
  p_Lost_late : PropOf g.K (He.ga g.K "Lost") "late" (pAd g.K (He.ga g.K "News") "late") (gAd g.K (He.ga g.K "News") "late")
  p_Late_late : PropOf g.K (He.ga g.K "Late") "late" (pAd g.K (He.ga g.K "News") "late") (gAd g.K (He.ga g.K "News") "late")
  p_News_late : PropOf g.K (He.ga g.K "News") "late" (pAd g.K (He.ga g.K "News") "late") (gAd g.K (He.ga g.K "News") "late")
  p_LateLost_lost : PropOf g.K (He.ga g.K "LateLost") "lost" (pAd g.K (He.ga g.K "News") "lost") (gAd g.K (He.ga g.K "News") "lost")
  p_Lost_lost : PropOf g.K (He.ga g.K "Lost") "lost" (pAd g.K (He.ga g.K "News") "lost") (gAd g.K (He.ga g.K "News") "lost")
  p_Late_lost : PropOf g.K (He.ga g.K "Late") "lost" (pAd g.K (He.ga g.K "News") "lost") (gAd g.K (He.ga g.K "News") "lost")
  p_News_lost : PropOf g.K (He.ga g.K "News") "lost" (pAd g.K (He.ga g.K "News") "lost") (gAd g.K (He.ga g.K "News") "lost")
  u_LateLost___repr__ : PySem.W.findIn g.K (.ref (He.ga g.K "LateLost")) "__repr__" = some (some (.ref (He.ma g.K (He.ga g.K "LateLost") "__repr__"))) ∧ PySem.W.isFn g.K (.ref (He.ma g.K (He.ga g.K "LateLost") "__repr__")) = true
  u_Lost___repr__ : PySem.W.findIn g.K (.ref (He.ga g.K "Lost")) "__repr__" = some (some (.ref (He.ma g.K (He.ga g.K "Lost") "__repr__"))) ∧ PySem.W.isFn g.K (.ref (He.ma g.K (He.ga g.K "Lost") "__repr__")) = true
  u_Late___repr__ : PySem.W.findIn g.K (.ref (He.ga g.K "Late")) "__repr__" = some (some (.ref (He.ma g.K (He.ga g.K "Late") "__repr__"))) ∧ PySem.W.isFn g.K (.ref (He.ma g.K (He.ga g.K "Late") "__repr__")) = true
  u_Plant___repr__ : PySem.W.findIn g.K (.ref (He.ga g.K "Plant")) "__repr__" = some (some (.ref (He.ma g.K (He.ga g.K "Plant") "__repr__"))) ∧ PySem.W.isFn g.K (.ref (He.ma g.K (He.ga g.K "Plant") "__repr__")) = true
  u_Plant___len__ : PySem.W.findIn g.K (.ref (He.ga g.K "Plant")) "__len__" = some (some (.ref (He.ma g.K (He.ga g.K "Plant") "__len__"))) ∧ PySem.W.isFn g.K (.ref (He.ma g.K (He.ga g.K "Plant") "__len__")) = true
  p_Plant_moves : PropOf g.K (He.ga g.K "Plant") "moves" (pAd g.K (He.ga g.K "Plant") "moves") (gAd g.K (He.ga g.K "Plant") "moves")
  u_LateLost___call__ : PySem.W.findIn g.K (.ref (He.ga g.K "LateLost")) "__call__" = some (some (.ref (He.ma g.K (He.ga g.K "News") "__call__"))) ∧ PySem.W.isFn g.K (.ref (He.ma g.K (He.ga g.K "News") "__call__")) = true
  u_Lost___call__ : PySem.W.findIn g.K (.ref (He.ga g.K "Lost")) "__call__" = some (some (.ref (He.ma g.K (He.ga g.K "News") "__call__"))) ∧ PySem.W.isFn g.K (.ref (He.ma g.K (He.ga g.K "News") "__call__")) = true
  u_Late___call__ : PySem.W.findIn g.K (.ref (He.ga g.K "Late")) "__call__" = some (some (.ref (He.ma g.K (He.ga g.K "News") "__call__"))) ∧ PySem.W.isFn g.K (.ref (He.ma g.K (He.ga g.K "News") "__call__")) = true
  u_News___call__ : PySem.W.findIn g.K (.ref (He.ga g.K "News")) "__call__" = some (some (.ref (He.ma g.K (He.ga g.K "News") "__call__"))) ∧ PySem.W.isFn g.K (.ref (He.ma g.K (He.ga g.K "News") "__call__")) = true
  p_Plant_goal : PropOf g.K (He.ga g.K "Plant") "goal" (pAd g.K (He.ga g.K "Plant") "goal") (gAd g.K (He.ga g.K "Plant") "goal")
  p_Plant_bad : PropOf g.K (He.ga g.K "Plant") "bad" (pAd g.K (He.ga g.K "Plant") "bad") (gAd g.K (He.ga g.K "Plant") "bad")
  d__law_pen : g.mg "_law_pen" = some (.ref (He.ga g.K "_law_pen"))
  d__law_cell_at : g.mg "_law_cell_at" = some (.ref (He.ga g.K "_law_cell_at"))
  d_is_between : g.mg "is_between" = some (.ref (He.ga g.K "is_between"))
  d_are_ascending : g.mg "are_ascending" = some (.ref (He.ga g.K "are_ascending"))
  d_are_moves : g.mg "are_moves" = some (.ref (He.ga g.K "are_moves"))
  e_xPlantDUinitU_0 : ∀ G ι, Rep g.w g.K g.ca G ι (.tup []) (.ref (He.dflAt ("Plant", some "__init__") 0 g.K))
  e_xPlantDUinitU_1 : ∀ G ι, Rep g.w g.K g.ca G ι (.tup []) (.ref (He.dflAt ("Plant", some "__init__") 1 g.K))
  d__law_made : g.mg "_law_made" = some (.ref (He.ga g.K "_law_made"))
  d__law_draw : g.mg "_law_draw" = some (.ref (He.ga g.K "_law_draw"))
  d__law_numbers : g.mg "_law_numbers" = some (.ref (He.ga g.K "_law_numbers"))
  d_need_number : g.mg "need_number" = some (.ref (He.ga g.K "need_number"))
  d_numbers_of : g.mg "numbers_of" = some (.ref (He.ga g.K "numbers_of"))
  d__law_news : g.mg "_law_news" = some (.ref (He.ga g.K "_law_news"))
  d__law_row : g.mg "_law_row" = some (.ref (He.ga g.K "_law_row"))
  d__law_led : g.mg "_law_led" = some (.ref (He.ga g.K "_law_led"))
  d__law_after : g.mg "_law_after" = some (.ref (He.ga g.K "_law_after"))
  d__law_next : g.mg "_law_next" = some (.ref (He.ga g.K "_law_next"))
  d__law_same : g.mg "_law_same" = some (.ref (He.ga g.K "_law_same"))
  d_need_plant : g.mg "need_plant" = some (.ref (He.ga g.K "need_plant"))
  d_is_place : g.mg "is_place" = some (.ref (He.ga g.K "is_place"))
  d_is_order : g.mg "is_order" = some (.ref (He.ga g.K "is_order"))
  d_is_row : g.mg "is_row" = some (.ref (He.ga g.K "is_row"))
  d_is_situation : g.mg "is_situation" = some (.ref (He.ga g.K "is_situation"))
  d_need_situation : g.mg "need_situation" = some (.ref (He.ga g.K "need_situation"))
  d_need_order : g.mg "need_order" = some (.ref (He.ga g.K "need_order"))
  d_led : g.mg "led" = some (.ref (He.ga g.K "led"))
  d_after : g.mg "after" = some (.ref (He.ga g.K "after"))
  d_due_in : g.mg "due_in" = some (.ref (He.ga g.K "due_in"))
  d_next_in : g.mg "next_in" = some (.ref (He.ga g.K "next_in"))
  d__law_right : g.mg "_law_right" = some (.ref (He.ga g.K "_law_right"))
  d__law_answers : g.mg "_law_answers" = some (.ref (He.ga g.K "_law_answers"))
  d__law_moves : g.mg "_law_moves" = some (.ref (He.ga g.K "_law_moves"))
  d__law_marks : g.mg "_law_marks" = some (.ref (He.ga g.K "_law_marks"))
  d__law_parts : g.mg "_law_parts" = some (.ref (He.ga g.K "_law_parts"))
  d_law : g.mg "law" = some (.ref (He.ga g.K "law"))
  q_x_law_pen : ∃ fd, FunD g.K "_law_pen" "_law_pen" (defArgs (top 52)) (defBody (top 52)) (defScope (top 52)) (df_x_law_pen.dvs g.K) [] (df_x_law_pen.ad g.K) fd
  q_x_law_cell_at : ∃ fd, FunD g.K "_law_cell_at" "_law_cell_at" (defArgs (top 51)) (defBody (top 51)) (defScope (top 51)) (df_x_law_cell_at.dvs g.K) [] (df_x_law_cell_at.ad g.K) fd
  q_xis_between : ∃ fd, FunD g.K "is_between" "is_between" (defArgs (top 20)) (defBody (top 20)) (defScope (top 20)) (df_xis_between.dvs g.K) [] (df_xis_between.ad g.K) fd
  q_xare_ascending : ∃ fd, FunD g.K "are_ascending" "are_ascending" (defArgs (top 21)) (defBody (top 21)) (defScope (top 21)) (df_xare_ascending.dvs g.K) [] (df_xare_ascending.ad g.K) fd
  q_xare_moves : ∃ fd, FunD g.K "are_moves" "are_moves" (defArgs (top 22)) (defBody (top 22)) (defScope (top 22)) (df_xare_moves.dvs g.K) [] (df_xare_moves.ad g.K) fd
  q_xPlantDUinitU : ∃ fd, FunD g.K "__init__" "Plant.__init__" (defArgs (inClass (top 31) 0)) (defBody (inClass (top 31) 0)) (defScope (inClass (top 31) 0)) (df_xPlantDUinitU.dvs g.K) [] (df_xPlantDUinitU.ad g.K) fd
  q_x_law_made : ∃ fd, FunD g.K "_law_made" "_law_made" (defArgs (top 60)) (defBody (top 60)) (defScope (top 60)) (df_x_law_made.dvs g.K) [] (df_x_law_made.ad g.K) fd
  q_x_law_draw : ∃ fd, FunD g.K "_law_draw" "_law_draw" (defArgs (top 53)) (defBody (top 53)) (defScope (top 53)) (df_x_law_draw.dvs g.K) [] (df_x_law_draw.ad g.K) fd
  q_x_law_numbers : ∃ fd, FunD g.K "_law_numbers" "_law_numbers" (defArgs (top 66)) (defBody (top 66)) (defScope (top 66)) (df_x_law_numbers.dvs g.K) [] (df_x_law_numbers.ad g.K) fd
  q_xneed_number : ∃ fd, FunD g.K "need_number" "need_number" (defArgs (top 41)) (defBody (top 41)) (defScope (top 41)) (df_xneed_number.dvs g.K) [] (df_xneed_number.ad g.K) fd
  q_xnumbers_of : ∃ fd, FunD g.K "numbers_of" "numbers_of" (defArgs (top 44)) (defBody (top 44)) (defScope (top 44)) (df_xnumbers_of.dvs g.K) [] (df_xnumbers_of.ad g.K) fd
  q_xLateDUinitU : ∃ fd, FunD g.K "__init__" "Late.__init__" (defArgs (inClass (top 46) 0)) (defBody (inClass (top 46) 0)) (defScope (inClass (top 46) 0)) (df_xLateDUinitU.dvs g.K) [] (df_xLateDUinitU.ad g.K) fd
  q_xLostDUinitU : ∃ fd, FunD g.K "__init__" "Lost.__init__" (defArgs (inClass (top 47) 0)) (defBody (inClass (top 47) 0)) (defScope (inClass (top 47) 0)) (df_xLostDUinitU.dvs g.K) [] (df_xLostDUinitU.ad g.K) fd
  q_xLateLostDUinitU : ∃ fd, FunD g.K "__init__" "LateLost.__init__" (defArgs (inClass (top 48) 0)) (defBody (inClass (top 48) 0)) (defScope (inClass (top 48) 0)) (df_xLateLostDUinitU.dvs g.K) [] (df_xLateLostDUinitU.ad g.K) fd
  q_x_law_news : ∃ fd, FunD g.K "_law_news" "_law_news" (defArgs (top 65)) (defBody (top 65)) (defScope (top 65)) (df_x_law_news.dvs g.K) [] (df_x_law_news.ad g.K) fd
  q_xPlantDorders : ∃ fd, FunD g.K "orders" "Plant.orders" (defArgs (inClass (top 31) 5)) (defBody (inClass (top 31) 5)) (defScope (inClass (top 31) 5)) (df_xPlantDorders.dvs g.K) [] (df_xPlantDorders.ad g.K) fd
  q_xPlantDplaces : ∃ fd, FunD g.K "places" "Plant.places" (defArgs (inClass (top 31) 4)) (defBody (inClass (top 31) 4)) (defScope (inClass (top 31) 4)) (df_xPlantDplaces.dvs g.K) [] (df_xPlantDplaces.ad g.K) fd
  q_xPlantDUreprU : ∃ fd, FunD g.K "__repr__" "Plant.__repr__" (defArgs (inClass (top 31) 12)) (defBody (inClass (top 31) 12)) (defScope (inClass (top 31) 12)) (df_xPlantDUreprU.dvs g.K) [] (df_xPlantDUreprU.ad g.K) fd
  q_xNewsDlate : ∃ fd, FunD g.K "late" "News.late" (defArgs (inClass (top 45) 0)) (defBody (inClass (top 45) 0)) (defScope (inClass (top 45) 0)) (df_xNewsDlate.dvs g.K) [] (df_xNewsDlate.ad g.K) fd
  q_xLateDUreprU : ∃ fd, FunD g.K "__repr__" "Late.__repr__" (defArgs (inClass (top 46) 1)) (defBody (inClass (top 46) 1)) (defScope (inClass (top 46) 1)) (df_xLateDUreprU.dvs g.K) [] (df_xLateDUreprU.ad g.K) fd
  q_xNewsDlost : ∃ fd, FunD g.K "lost" "News.lost" (defArgs (inClass (top 45) 1)) (defBody (inClass (top 45) 1)) (defScope (inClass (top 45) 1)) (df_xNewsDlost.dvs g.K) [] (df_xNewsDlost.ad g.K) fd
  q_xLostDUreprU : ∃ fd, FunD g.K "__repr__" "Lost.__repr__" (defArgs (inClass (top 47) 1)) (defBody (inClass (top 47) 1)) (defScope (inClass (top 47) 1)) (df_xLostDUreprU.dvs g.K) [] (df_xLostDUreprU.ad g.K) fd
  q_xLateLostDUreprU : ∃ fd, FunD g.K "__repr__" "LateLost.__repr__" (defArgs (inClass (top 48) 1)) (defBody (inClass (top 48) 1)) (defScope (inClass (top 48) 1)) (df_xLateLostDUreprU.dvs g.K) [] (df_xLateLostDUreprU.ad g.K) fd
  q_x_law_row : ∃ fd, FunD g.K "_law_row" "_law_row" (defArgs (top 63)) (defBody (top 63)) (defScope (top 63)) (df_x_law_row.dvs g.K) [] (df_x_law_row.ad g.K) fd
  q_x_law_led : ∃ fd, FunD g.K "_law_led" "_law_led" (defArgs (top 61)) (defBody (top 61)) (defScope (top 61)) (df_x_law_led.dvs g.K) [] (df_x_law_led.ad g.K) fd
  q_x_law_after : ∃ fd, FunD g.K "_law_after" "_law_after" (defArgs (top 62)) (defBody (top 62)) (defScope (top 62)) (df_x_law_after.dvs g.K) [] (df_x_law_after.ad g.K) fd
  q_x_law_next : ∃ fd, FunD g.K "_law_next" "_law_next" (defArgs (top 64)) (defBody (top 64)) (defScope (top 64)) (df_x_law_next.dvs g.K) [] (df_x_law_next.ad g.K) fd
  q_x_law_same : ∃ fd, FunD g.K "_law_same" "_law_same" (defArgs (top 54)) (defBody (top 54)) (defScope (top 54)) (df_x_law_same.dvs g.K) [] (df_x_law_same.ad g.K) fd
  q_xneed_plant : ∃ fd, FunD g.K "need_plant" "need_plant" (defArgs (top 25)) (defBody (top 25)) (defScope (top 25)) (df_xneed_plant.dvs g.K) [] (df_xneed_plant.ad g.K) fd
  q_xPlantDUlenU : ∃ fd, FunD g.K "__len__" "Plant.__len__" (defArgs (inClass (top 31) 9)) (defBody (inClass (top 31) 9)) (defScope (inClass (top 31) 9)) (df_xPlantDUlenU.dvs g.K) [] (df_xPlantDUlenU.ad g.K) fd
  q_xis_place : ∃ fd, FunD g.K "is_place" "is_place" (defArgs (top 23)) (defBody (top 23)) (defScope (top 23)) (df_xis_place.dvs g.K) [] (df_xis_place.ad g.K) fd
  q_xis_order : ∃ fd, FunD g.K "is_order" "is_order" (defArgs (top 24)) (defBody (top 24)) (defScope (top 24)) (df_xis_order.dvs g.K) [] (df_xis_order.ad g.K) fd
  q_xis_row : ∃ fd, FunD g.K "is_row" "is_row" (defArgs (top 36)) (defBody (top 36)) (defScope (top 36)) (df_xis_row.dvs g.K) [] (df_xis_row.ad g.K) fd
  q_xis_situation : ∃ fd, FunD g.K "is_situation" "is_situation" (defArgs (top 37)) (defBody (top 37)) (defScope (top 37)) (df_xis_situation.dvs g.K) [] (df_xis_situation.ad g.K) fd
  q_xneed_situation : ∃ fd, FunD g.K "need_situation" "need_situation" (defArgs (top 38)) (defBody (top 38)) (defScope (top 38)) (df_xneed_situation.dvs g.K) [] (df_xneed_situation.ad g.K) fd
  q_xneed_order : ∃ fd, FunD g.K "need_order" "need_order" (defArgs (top 27)) (defBody (top 27)) (defScope (top 27)) (df_xneed_order.dvs g.K) [] (df_xneed_order.ad g.K) fd
  q_xPlantDmoves : ∃ fd, FunD g.K "moves" "Plant.moves" (defArgs (inClass (top 31) 1)) (defBody (inClass (top 31) 1)) (defScope (inClass (top 31) 1)) (df_xPlantDmoves.dvs g.K) [] (df_xPlantDmoves.ad g.K) fd
  q_xled : ∃ fd, FunD g.K "led" "led" (defArgs (top 34)) (defBody (top 34)) (defScope (top 34)) (df_xled.dvs g.K) [] (df_xled.ad g.K) fd
  q_xafter : ∃ fd, FunD g.K "after" "after" (defArgs (top 35)) (defBody (top 35)) (defScope (top 35)) (df_xafter.dvs g.K) [] (df_xafter.ad g.K) fd
  q_xdue_in : ∃ fd, FunD g.K "due_in" "due_in" (defArgs (top 42)) (defBody (top 42)) (defScope (top 42)) (df_xdue_in.dvs g.K) [] (df_xdue_in.ad g.K) fd
  q_xnext_in : ∃ fd, FunD g.K "next_in" "next_in" (defArgs (top 43)) (defBody (top 43)) (defScope (top 43)) (df_xnext_in.dvs g.K) [] (df_xnext_in.ad g.K) fd
  q_xNewsDUcallU : ∃ fd, FunD g.K "__call__" "News.__call__" (defArgs (inClass (top 45) 2)) (defBody (inClass (top 45) 2)) (defScope (inClass (top 45) 2)) (df_xNewsDUcallU.dvs g.K) [] (df_xNewsDUcallU.ad g.K) fd
  q_xPlantDgoal : ∃ fd, FunD g.K "goal" "Plant.goal" (defArgs (inClass (top 31) 3)) (defBody (inClass (top 31) 3)) (defScope (inClass (top 31) 3)) (df_xPlantDgoal.dvs g.K) [] (df_xPlantDgoal.ad g.K) fd
  q_xPlantDbad : ∃ fd, FunD g.K "bad" "Plant.bad" (defArgs (inClass (top 31) 2)) (defBody (inClass (top 31) 2)) (defScope (inClass (top 31) 2)) (df_xPlantDbad.dvs g.K) [] (df_xPlantDbad.ad g.K) fd
  q_x_law_right : ∃ fd, FunD g.K "_law_right" "_law_right" (defArgs (top 67)) (defBody (top 67)) (defScope (top 67)) (df_x_law_right.dvs g.K) [] (df_x_law_right.ad g.K) fd
  q_x_law_answers : ∃ fd, FunD g.K "_law_answers" "_law_answers" (defArgs (top 56)) (defBody (top 56)) (defScope (top 56)) (df_x_law_answers.dvs g.K) [] (df_x_law_answers.ad g.K) fd
  q_x_law_moves : ∃ fd, FunD g.K "_law_moves" "_law_moves" (defArgs (top 57)) (defBody (top 57)) (defScope (top 57)) (df_x_law_moves.dvs g.K) [] (df_x_law_moves.ad g.K) fd
  q_x_law_marks : ∃ fd, FunD g.K "_law_marks" "_law_marks" (defArgs (top 58)) (defBody (top 58)) (defScope (top 58)) (df_x_law_marks.dvs g.K) [] (df_x_law_marks.ad g.K) fd
  q_x_law_parts : ∃ fd, FunD g.K "_law_parts" "_law_parts" (defArgs (top 59)) (defBody (top 59)) (defScope (top 59)) (df_x_law_parts.dvs g.K) [] (df_x_law_parts.ad g.K) fd
  q_xlaw : ∃ fd, FunD g.K "law" "law" (defArgs (top 68)) (defBody (top 68)) (defScope (top 68)) (df_xlaw.dvs g.K) [] (df_xlaw.ad g.K) fd
theorem B.of {P : Program} {w : World} {K : PySem.W.Frag} {h : Heap} {mg : Str → Option Value} {base : Heap} (X : K.In h) (G : h.Ns mainGlobals mg) (c : SaysM fy fn K) : B ⟨P, w, K, mg, base, caOf K insN excN⟩ := by
  have all := c.facts
  have hA : (fyA.all fun f => f.ok K) = true := List.all_eq_true.mpr fun f hf => List.all_eq_true.mp all f (by unfold fy; exact List.mem_append_left _ hf)
  have hX : (fyX.all fun f => f.ok K) = true := List.all_eq_true.mpr fun f hf => List.all_eq_true.mp all f (by unfold fy; exact List.mem_append_right _ (List.mem_append_left _ hf))
  have hC : ((cfFacts insN).all fun f => f.ok K) = true := List.all_eq_true.mpr fun f hf => List.all_eq_true.mp all f (by unfold fy; exact List.mem_append_right _ (List.mem_append_right _ (List.mem_append_left _ hf)))
  have hI : ((isFacts insN isL).all fun f => f.ok K) = true := List.all_eq_true.mpr fun f hf => List.all_eq_true.mp all f (by unfold fy; exact List.mem_append_right _ (List.mem_append_right _ (List.mem_append_right _ hf)))
  have fa : ∀ (i : Nat) (f : Fy), fyA[i]? = some f → f.ok K = true := fun i f e => List.all_eq_true.mp hA f (List.mem_of_getElem? e)
  have fx : ∀ (i : Nat) (f : Fy), fyX[i]? = some f → f.ok K = true := fun i f e => List.all_eq_true.mp hX f (List.mem_of_getElem? e)
  have c0_NoMarks := fx 0 _ rfl
  have c0_NoMoves := fx 1 _ rfl
  have c0_NoNumber := fx 2 _ rfl
  have c0_NoOrder := fx 3 _ rfl
  have c0_NoPlant := fx 4 _ rfl
  have c0_NoSituation := fx 5 _ rfl
  have c0_TooMuch := fx 6 _ rfl
  exact {
    cf := CF.of hC
    isf := IsF.of hC hI (by decide)
    f_all := He.free_ok X G (fa 0 _ rfl)
    f_any := He.free_ok X G (fa 1 _ rfl)
    f_bool := He.free_ok X G (fa 2 _ rfl)
    f_int := He.free_ok X G (fa 3 _ rfl)
    f_isinstance := He.free_ok X G (fa 4 _ rfl)
    f_len := He.free_ok X G (fa 5 _ rfl)
    f_list := He.free_ok X G (fa 6 _ rfl)
    f_max := He.free_ok X G (fa 7 _ rfl)
    f_min := He.free_ok X G (fa 8 _ rfl)
    f_range := He.free_ok X G (fa 9 _ rfl)
    f_repr := He.free_ok X G (fa 10 _ rfl)
    f_set := He.free_ok X G (fa 11 _ rfl)
    f_sorted := He.free_ok X G (fa 12 _ rfl)
    f_tuple := He.free_ok X G (fa 13 _ rfl)
    i_MOST := He.int_ok X G (fa 14 _ rfl)
    i_MOST_ORDERS := He.int_ok X G (fa 15 _ rfl)
    i_MOST_PLACES := He.int_ok X G (fa 16 _ rfl)
    k_Plant := rfl
    c_Plant := ⟨_, He.glo_ok X G (fa 17 _ rfl), rfl⟩
    m_Plant := He.mkr_ok (fa 18 _ rfl)
    g_Plant := He.glo_ok X G (fa 19 _ rfl)
    k_News := rfl
    c_News := ⟨_, He.glo_ok X G (fa 20 _ rfl), rfl⟩
    k_Late := rfl
    c_Late := ⟨_, He.glo_ok X G (fa 21 _ rfl), rfl⟩
    m_Late := He.mkr_ok (fa 22 _ rfl)
    g_Late := He.glo_ok X G (fa 23 _ rfl)
    k_Lost := rfl
    c_Lost := ⟨_, He.glo_ok X G (fa 24 _ rfl), rfl⟩
    m_Lost := He.mkr_ok (fa 25 _ rfl)
    g_Lost := He.glo_ok X G (fa 26 _ rfl)
    k_LateLost := rfl
    c_LateLost := ⟨_, He.glo_ok X G (fa 27 _ rfl), rfl⟩
    m_LateLost := He.mkr_ok (fa 28 _ rfl)
    g_LateLost := He.glo_ok X G (fa 29 _ rfl)
    x_NoMarks := ⟨⟨_, He.glo_ok X G c0_NoMarks, rfl, He.exc_ok (fa 30 _ rfl)⟩⟩
    x_NoMoves := ⟨⟨_, He.glo_ok X G c0_NoMoves, rfl, He.exc_ok (fa 31 _ rfl)⟩⟩
    x_NoNumber := ⟨⟨_, He.glo_ok X G c0_NoNumber, rfl, He.exc_ok (fa 32 _ rfl)⟩⟩
    x_NoOrder := ⟨⟨_, He.glo_ok X G c0_NoOrder, rfl, He.exc_ok (fa 33 _ rfl)⟩⟩
    x_NoPlant := ⟨⟨_, He.glo_ok X G c0_NoPlant, rfl, He.exc_ok (fa 34 _ rfl)⟩⟩
    x_NoSituation := ⟨⟨_, He.glo_ok X G c0_NoSituation, rfl, He.exc_ok (fa 35 _ rfl)⟩⟩
    x_TooMuch := ⟨⟨_, He.glo_ok X G c0_TooMuch, rfl, He.exc_ok (fa 36 _ rfl)⟩⟩
    p_Plant_orders := prop_ok (fa 37 _ rfl)
    p_Plant_places := prop_ok (fa 38 _ rfl)
    p_LateLost_late := prop_ok (fa 39 _ rfl)
    p_Lost_late := prop_ok (fa 40 _ rfl)
    p_Late_late := prop_ok (fa 41 _ rfl)
    p_News_late := prop_ok (fa 42 _ rfl)
    p_LateLost_lost := prop_ok (fa 43 _ rfl)
    p_Lost_lost := prop_ok (fa 44 _ rfl)
    p_Late_lost := prop_ok (fa 45 _ rfl)
    p_News_lost := prop_ok (fa 46 _ rfl)
    u_LateLost___repr__ := dun_ok (fa 47 _ rfl)
    u_Lost___repr__ := dun_ok (fa 48 _ rfl)
    u_Late___repr__ := dun_ok (fa 49 _ rfl)
    u_Plant___repr__ := dun_ok (fa 50 _ rfl)
    u_Plant___len__ := dun_ok (fa 51 _ rfl)
    p_Plant_moves := prop_ok (fa 52 _ rfl)
    u_LateLost___call__ := dun_ok (fa 53 _ rfl)
    u_Lost___call__ := dun_ok (fa 54 _ rfl)
    u_Late___call__ := dun_ok (fa 55 _ rfl)
    u_News___call__ := dun_ok (fa 56 _ rfl)
    p_Plant_goal := prop_ok (fa 57 _ rfl)
    p_Plant_bad := prop_ok (fa 58 _ rfl)
    d__law_pen := He.glo_ok X G (fa 59 _ rfl)
    d__law_cell_at := He.glo_ok X G (fa 60 _ rfl)
    d_is_between := He.glo_ok X G (fa 61 _ rfl)
    d_are_ascending := He.glo_ok X G (fa 62 _ rfl)
    d_are_moves := He.glo_ok X G (fa 63 _ rfl)
    e_xPlantDUinitU_0 := fun _ _ => etup_ok (fa 64 _ rfl)
    e_xPlantDUinitU_1 := fun _ _ => etup_ok (fa 65 _ rfl)
    d__law_made := He.glo_ok X G (fa 66 _ rfl)
    d__law_draw := He.glo_ok X G (fa 67 _ rfl)
    d__law_numbers := He.glo_ok X G (fa 68 _ rfl)
    d_need_number := He.glo_ok X G (fa 69 _ rfl)
    d_numbers_of := He.glo_ok X G (fa 70 _ rfl)
    d__law_news := He.glo_ok X G (fa 71 _ rfl)
    d__law_row := He.glo_ok X G (fa 72 _ rfl)
    d__law_led := He.glo_ok X G (fa 73 _ rfl)
    d__law_after := He.glo_ok X G (fa 74 _ rfl)
    d__law_next := He.glo_ok X G (fa 75 _ rfl)
    d__law_same := He.glo_ok X G (fa 76 _ rfl)
    d_need_plant := He.glo_ok X G (fa 77 _ rfl)
    d_is_place := He.glo_ok X G (fa 78 _ rfl)
    d_is_order := He.glo_ok X G (fa 79 _ rfl)
    d_is_row := He.glo_ok X G (fa 80 _ rfl)
    d_is_situation := He.glo_ok X G (fa 81 _ rfl)
    d_need_situation := He.glo_ok X G (fa 82 _ rfl)
    d_need_order := He.glo_ok X G (fa 83 _ rfl)
    d_led := He.glo_ok X G (fa 84 _ rfl)
    d_after := He.glo_ok X G (fa 85 _ rfl)
    d_due_in := He.glo_ok X G (fa 86 _ rfl)
    d_next_in := He.glo_ok X G (fa 87 _ rfl)
    d__law_right := He.glo_ok X G (fa 88 _ rfl)
    d__law_answers := He.glo_ok X G (fa 89 _ rfl)
    d__law_moves := He.glo_ok X G (fa 90 _ rfl)
    d__law_marks := He.glo_ok X G (fa 91 _ rfl)
    d__law_parts := He.glo_ok X G (fa 92 _ rfl)
    d_law := He.glo_ok X G (fa 93 _ rfl)
    q_x_law_pen := c.def_ 0 (d := df_x_law_pen)
    q_x_law_cell_at := c.def_ 1 (d := df_x_law_cell_at)
    q_xis_between := c.def_ 2 (d := df_xis_between)
    q_xare_ascending := c.def_ 3 (d := df_xare_ascending)
    q_xare_moves := c.def_ 4 (d := df_xare_moves)
    q_xPlantDUinitU := c.def_ 5 (d := df_xPlantDUinitU)
    q_x_law_made := c.def_ 6 (d := df_x_law_made)
    q_x_law_draw := c.def_ 7 (d := df_x_law_draw)
    q_x_law_numbers := c.def_ 8 (d := df_x_law_numbers)
    q_xneed_number := c.def_ 9 (d := df_xneed_number)
    q_xnumbers_of := c.def_ 10 (d := df_xnumbers_of)
    q_xLateDUinitU := c.def_ 11 (d := df_xLateDUinitU)
    q_xLostDUinitU := c.def_ 12 (d := df_xLostDUinitU)
    q_xLateLostDUinitU := c.def_ 13 (d := df_xLateLostDUinitU)
    q_x_law_news := c.def_ 14 (d := df_x_law_news)
    q_xPlantDorders := c.def_ 15 (d := df_xPlantDorders)
    q_xPlantDplaces := c.def_ 16 (d := df_xPlantDplaces)
    q_xPlantDUreprU := c.def_ 17 (d := df_xPlantDUreprU)
    q_xNewsDlate := c.def_ 18 (d := df_xNewsDlate)
    q_xLateDUreprU := c.def_ 19 (d := df_xLateDUreprU)
    q_xNewsDlost := c.def_ 20 (d := df_xNewsDlost)
    q_xLostDUreprU := c.def_ 21 (d := df_xLostDUreprU)
    q_xLateLostDUreprU := c.def_ 22 (d := df_xLateLostDUreprU)
    q_x_law_row := c.def_ 23 (d := df_x_law_row)
    q_x_law_led := c.def_ 24 (d := df_x_law_led)
    q_x_law_after := c.def_ 25 (d := df_x_law_after)
    q_x_law_next := c.def_ 26 (d := df_x_law_next)
    q_x_law_same := c.def_ 27 (d := df_x_law_same)
    q_xneed_plant := c.def_ 28 (d := df_xneed_plant)
    q_xPlantDUlenU := c.def_ 29 (d := df_xPlantDUlenU)
    q_xis_place := c.def_ 30 (d := df_xis_place)
    q_xis_order := c.def_ 31 (d := df_xis_order)
    q_xis_row := c.def_ 32 (d := df_xis_row)
    q_xis_situation := c.def_ 33 (d := df_xis_situation)
    q_xneed_situation := c.def_ 34 (d := df_xneed_situation)
    q_xneed_order := c.def_ 35 (d := df_xneed_order)
    q_xPlantDmoves := c.def_ 36 (d := df_xPlantDmoves)
    q_xled := c.def_ 37 (d := df_xled)
    q_xafter := c.def_ 38 (d := df_xafter)
    q_xdue_in := c.def_ 39 (d := df_xdue_in)
    q_xnext_in := c.def_ 40 (d := df_xnext_in)
    q_xNewsDUcallU := c.def_ 41 (d := df_xNewsDUcallU)
    q_xPlantDgoal := c.def_ 42 (d := df_xPlantDgoal)
    q_xPlantDbad := c.def_ 43 (d := df_xPlantDbad)
    q_x_law_right := c.def_ 44 (d := df_x_law_right)
    q_x_law_answers := c.def_ 45 (d := df_x_law_answers)
    q_x_law_moves := c.def_ 46 (d := df_x_law_moves)
    q_x_law_marks := c.def_ 47 (d := df_x_law_marks)
    q_x_law_parts := c.def_ 48 (d := df_x_law_parts)
    q_xlaw := c.def_ 49 (d := df_xlaw)
  }
variable {g : GX}
/-! _law_pen -/
abbrev s_x_law_pen : Stmt := top 52
def N_x_law_pen : List Str := ["_law_cell"]
def m_x_law_pen : MS := sRet (mNewL (aCons (mL (f2 fMax2) (aCons (mC (.int 0)) (aCons (m2 fSub (mVar 0) (m2 (fII iPow) (mC (.int 10)) (mC (.int 18)))) (aNil)))) (aCons (m2 fAddG (m2 (fII iMod) (mVar 0) (mC (.int 2147483629))) (mC (.int 1))) (aCons (mC (.int 0)) (aNil)))))
theorem sc_x_law_pen : FnScope N_x_law_pen ["_law_cell"] (defScope s_x_law_pen) := ⟨rfl, rfl, rfl, by decide +kernel, rfl, by decide +kernel, by decide +kernel⟩
set_option maxHeartbeats 4000000 in
theorem d_x_law_pen (b : B g) : SB g N_x_law_pen (dsc (defScope s_x_law_pen)) 0 (defBody s_x_law_pen) m_x_law_pen :=
  sb_one (ss_ret (se_newL (sa_cons (se_callB o_max2 b.f_max (by decide +kernel) (sa_cons (se_int) (sa_cons (se_op o_sub (se_var 0) (se_op o_pow (se_int) (se_int))) (sa_nil)))) (sa_cons (se_op o_addG (se_op o_mod (se_var 0) (se_int)) (se_int)) (sa_cons (se_int) (sa_nil))))))
def F_x_law_pen_1 : FD := fdD (runF 1 m_x_law_pen) 1 []
theorem fa_x_law_pen_1 (b : B g) : FA g 1 (df_x_law_pen.ad g.K) F_x_law_pen_1 := by
  obtain ⟨fd, F⟩ := b.q_x_law_pen
  exact FA.of0 (ps := ["_law_cell"]) F sc_x_law_pen (d_x_law_pen b) fun _ _ _ _ _ _ us hl => match us, hl with | [_], _ => rfl
theorem fo_x_law_pen_1 (b : B g) : FO g 1 "_law_pen" F_x_law_pen_1 := ⟨⟨_, b.d__law_pen, fa_x_law_pen_1 b⟩⟩
/-! _law_cell_at -/
abbrev s_x_law_cell_at : Stmt := top 51
def N_x_law_cell_at : List Str := ["_law_script", "_law_k"]
def m_x_law_cell_at : MS := sSeq (sIf (mB (m2 fLt (mVar 1) (mL (f1 fLen) (aCons (mVar 0) (aNil))))) (sRet (m2 fIxD (mVar 0) (mVar 1))) (sNil)) (sRet (mC (.int 0)))
theorem sc_x_law_cell_at : FnScope N_x_law_cell_at ["_law_script", "_law_k"] (defScope s_x_law_cell_at) := ⟨rfl, rfl, rfl, by decide +kernel, rfl, by decide +kernel, by decide +kernel⟩
set_option maxHeartbeats 4000000 in
theorem d_x_law_cell_at (b : B g) : SB g N_x_law_cell_at (dsc (defScope s_x_law_cell_at)) 0 (defBody s_x_law_cell_at) m_x_law_cell_at :=
  sb_cons (ss_if (st_cmp o_lt (se_var 1) (se_callB o_len b.f_len (by decide +kernel) (sa_cons (se_var 0) (sa_nil)))) (sb_one (ss_ret (se_ix o_ixD (se_var 0) (se_var 1)))) (sb_nil)) (sb_one (ss_ret (se_int)))
def F_x_law_cell_at_2 : FD := fdD (runF 2 m_x_law_cell_at) 2 []
theorem fa_x_law_cell_at_2 (b : B g) : FA g 1 (df_x_law_cell_at.ad g.K) F_x_law_cell_at_2 := by
  obtain ⟨fd, F⟩ := b.q_x_law_cell_at
  exact FA.of0 (ps := ["_law_script", "_law_k"]) F sc_x_law_cell_at (d_x_law_cell_at b) fun _ _ _ _ _ _ us hl => match us, hl with | [_, _], _ => rfl
theorem fo_x_law_cell_at_2 (b : B g) : FO g 1 "_law_cell_at" F_x_law_cell_at_2 := ⟨⟨_, b.d__law_cell_at, fa_x_law_cell_at_2 b⟩⟩
/-! is_between -/
abbrev s_xis_between : Stmt := top 20
def N_xis_between : List Str := ["thing", "low", "high"]
def m_xis_between : MS := sRet (mAnd (mL (f2 (fIsi isT)) (aCons (mVar 0) (aCons (mC (.ty .int)) (aNil)))) (mAnd (m1 fNot (mL (f2 (fIsi isT)) (aCons (mVar 0) (aCons (mC (.ty .bool)) (aNil))))) (mChain fLe fLe (mVar 1) (mVar 0) (mVar 2))))
theorem sc_xis_between : FnScope N_xis_between ["thing", "low", "high"] (defScope s_xis_between) := ⟨rfl, rfl, rfl, by decide +kernel, rfl, by decide +kernel, by decide +kernel⟩
set_option maxHeartbeats 4000000 in
theorem d_xis_between (b : B g) : SB g N_xis_between (dsc (defScope s_xis_between)) 0 (defBody s_xis_between) m_xis_between :=
  sb_one (ss_ret (se_and (se_callB (o_isi b.isf) b.f_isinstance (by decide +kernel) (sa_cons (se_var 0) (sa_cons (se_ty .int b.f_int (by decide +kernel)) (sa_nil)))) (se_and (se_not (se_callB (o_isi b.isf) b.f_isinstance (by decide +kernel) (sa_cons (se_var 0) (sa_cons (se_ty .bool b.f_bool (by decide +kernel)) (sa_nil))))) (se_one (se_chain o_le o_le (se_var 1) (se_var 0) (se_var 2))))))
def F_xis_between_3 : FD := fdD (frD (runF 3 m_xis_between)) 3 []
theorem fa_xis_between_3 (b : B g) : FA g 1 (df_xis_between.ad g.K) F_xis_between_3 := by
  obtain ⟨fd, F⟩ := b.q_xis_between
  exact FA.of0F (ps := ["thing", "low", "high"]) F sc_xis_between (d_xis_between b) fun _ _ _ _ _ _ us hl => match us, hl with | [_, _, _], _ => rfl
theorem fo_xis_between_3 (b : B g) : FO g 1 "is_between" F_xis_between_3 := ⟨⟨_, b.d_is_between, fa_xis_between_3 b⟩⟩
/-! are_ascending -/
abbrev s_xare_ascending : Stmt := top 21
def N_xare_ascending : List Str := ["thing", "many", "one"]
def m_xare_ascending : MS := sSeq (sIf (mOrT (mNotT (mTr (mL (f2 (fIsi isT)) (aCons (mVar 0) (aCons (mC (.ty .tuple)) (aNil)))))) (mNotT (mTr (mL (f1 fAll) (aCons (mComp (iAny (mVar 0)) (gN 2) (tYesM) (mL F_xis_between_3 (aCons (mVar 2) (aCons (mC (.int 0)) (aCons (m2 fSub (mVar 1) (mC (.int 1))) (aNil))))) [2]) (aNil)))))) (sRet (mC (.bl false))) (sNil)) (sRet (m2 fEq (mL (f1 fLstOf) (aCons (mVar 0) (aNil))) (m1 fSortSet (mVar 0))))
theorem sc_xare_ascending : FnScope N_xare_ascending ["thing", "many"] (defScope s_xare_ascending) := ⟨rfl, rfl, rfl, by decide +kernel, rfl, by decide +kernel, by decide +kernel⟩
set_option maxHeartbeats 4000000 in
theorem d_xare_ascending (b : B g) : SB g N_xare_ascending (dsc (defScope s_xare_ascending)) 1 (defBody s_xare_ascending) m_xare_ascending :=
  sb_cons (ss_if (st_w (sw_or (st_not (st_tr (se_callB (o_isi b.isf) b.f_isinstance (by decide +kernel) (sa_cons (se_var 0) (sa_cons (se_ty .tuple b.f_tuple (by decide +kernel)) (sa_nil)))))) (sw_or1 (st_not (st_tr (se_callB o_all b.f_all (by decide +kernel) (sa_cons (se_comp [("one", 2)] (si_any (se_var 0)) (sg_name 2) (sts_nil) (se_call (fo_xis_between_3 b) (sa_cons (se_var 2) (sa_cons (se_int) (sa_cons (se_op o_sub (se_var 1) (se_int)) (sa_nil)))))) (sa_nil)))))))) (sb_one (ss_ret (se_bl))) (sb_nil)) (sb_one (ss_ret (se_cmp o_eq (se_callTy o_lstOf b.f_list (by decide +kernel) (sa_cons (se_var 0) (sa_nil))) (se_sortSet (se_var 0) b.f_sorted b.f_set))))
def F_xare_ascending_2 : FD := fdD (frD (runF 3 m_xare_ascending)) 2 []
theorem fa_xare_ascending_2 (b : B g) : FA g 2 (df_xare_ascending.ad g.K) F_xare_ascending_2 := by
  obtain ⟨fd, F⟩ := b.q_xare_ascending
  exact FA.of0F (ps := ["thing", "many"]) F sc_xare_ascending (d_xare_ascending b) fun _ _ _ _ _ _ us hl => match us, hl with | [_, _], _ => rfl
theorem fo_xare_ascending_2 (b : B g) : FO g 2 "are_ascending" F_xare_ascending_2 := ⟨⟨_, b.d_are_ascending, fa_xare_ascending_2 b⟩⟩
/-! are_moves -/
abbrev s_xare_moves : Stmt := top 22
def N_xare_moves : List Str := ["thing", "row", "answers"]
def m_xare_moves : MS := sSeq (sIf (mOrT (mNotT (mTr (mL (f2 (fIsi isT)) (aCons (mVar 0) (aCons (mC (.ty .tuple)) (aNil)))))) (mNotT (mB (mChain fLe fLe (mC (.int 1)) (mL (f1 fLen) (aCons (mVar 0) (aNil))) (mC (.int 6)))))) (sRet (mC (.bl false))) (sNil)) (sSeq (sIf (mNotT (mTr (mL (f1 fAll) (aCons (mComp (iAny (mVar 0)) (gN 1) (tYesM) (mAnd (mL (f2 (fIsi isT)) (aCons (mVar 1) (aCons (mC (.ty .tuple)) (aNil)))) (mChain fLe fLe (mC (.int 1)) (mL (f1 fLen) (aCons (mVar 1) (aNil))) (mC (.int 3)))) [1]) (aNil))))) (sRet (mC (.bl false))) (sNil)) (sSeq (sIf (mNotT (mTr (mL (f1 fAll) (aCons (mComp (iAny (mVar 0)) (gN 1) (tYesM) (m2 fEq (mL (f1 fLen) (aCons (mVar 1) (aNil))) (mL (f1 fLen) (aCons (m2 fIxD (mVar 0) (mC (.int 0))) (aNil)))) [1]) (aNil))))) (sRet (mC (.bl false))) (sNil)) (sRet (mL (f1 fAll) (aCons (mComp2 (iAny (mVar 0)) (gN 1) (tYesM) (iAny (mVar 1)) (gN 2) (tYesM) (mAnd (mL F_xare_ascending_2 (aCons (mVar 2) (aCons (mL (f1 fLen) (aCons (mVar 0) (aNil))) (aNil)))) (m2 fGt (mL (f1 fLen) (aCons (mVar 2) (aNil))) (mC (.int 0)))) [1, 2] [2]) (aNil))))))
theorem sc_xare_moves : FnScope N_xare_moves ["thing"] (defScope s_xare_moves) := ⟨rfl, rfl, rfl, by decide +kernel, rfl, by decide +kernel, by decide +kernel⟩
set_option maxHeartbeats 4000000 in
theorem d_xare_moves (b : B g) : SB g N_xare_moves (dsc (defScope s_xare_moves)) 2 (defBody s_xare_moves) m_xare_moves :=
  sb_cons (ss_if (st_w (sw_or (st_not (st_tr (se_callB (o_isi b.isf) b.f_isinstance (by decide +kernel) (sa_cons (se_var 0) (sa_cons (se_ty .tuple b.f_tuple (by decide +kernel)) (sa_nil)))))) (sw_or1 (st_not (st_chain o_le o_le (se_int) (se_callB o_len b.f_len (by decide +kernel) (sa_cons (se_var 0) (sa_nil))) (se_gint b.i_MOST_PLACES)))))) (sb_one (ss_ret (se_bl))) (sb_nil)) (sb_cons (ss_if (st_not (st_tr (se_callB o_all b.f_all (by decide +kernel) (sa_cons (se_comp [("row", 1)] (si_any (se_var 0)) (sg_name 1) (sts_nil) (se_and (se_callB (o_isi b.isf) b.f_isinstance (by decide +kernel) (sa_cons (se_var 1) (sa_cons (se_ty .tuple b.f_tuple (by decide +kernel)) (sa_nil)))) (se_one (se_chain o_le o_le (se_int) (se_callB o_len b.f_len (by decide +kernel) (sa_cons (se_var 1) (sa_nil))) (se_gint b.i_MOST_ORDERS))))) (sa_nil))))) (sb_one (ss_ret (se_bl))) (sb_nil)) (sb_cons (ss_if (st_not (st_tr (se_callB o_all b.f_all (by decide +kernel) (sa_cons (se_comp [("row", 1)] (si_any (se_var 0)) (sg_name 1) (sts_nil) (se_cmp o_eq (se_callB o_len b.f_len (by decide +kernel) (sa_cons (se_var 1) (sa_nil))) (se_callB o_len b.f_len (by decide +kernel) (sa_cons (se_ix o_ixD (se_var 0) (se_int)) (sa_nil))))) (sa_nil))))) (sb_one (ss_ret (se_bl))) (sb_nil)) (sb_one (ss_ret (se_callB o_all b.f_all (by decide +kernel) (sa_cons (se_comp2 [("row", 1), ("answers", 2)] (si_any (se_var 0)) (sg_wide (sg_name 1) (by decide)) (sts_nil) (si_any (se_var 1)) (sg_name 2) (sts_nil) (se_and (se_call (fo_xare_ascending_2 b) (sa_cons (se_var 2) (sa_cons (se_callB o_len b.f_len (by decide +kernel) (sa_cons (se_var 0) (sa_nil))) (sa_nil)))) (se_one (se_cmp o_gt (se_callB o_len b.f_len (by decide +kernel) (sa_cons (se_var 2) (sa_nil))) (se_int))))) (sa_nil)))))))
def F_xare_moves_1 : FD := fdD (frD (runF 3 m_xare_moves)) 1 []
theorem fa_xare_moves_1 (b : B g) : FA g 3 (df_xare_moves.ad g.K) F_xare_moves_1 := by
  obtain ⟨fd, F⟩ := b.q_xare_moves
  exact FA.of0F (ps := ["thing"]) F sc_xare_moves (d_xare_moves b) fun _ _ _ _ _ _ us hl => match us, hl with | [_], _ => rfl
theorem fo_xare_moves_1 (b : B g) : FO g 3 "are_moves" F_xare_moves_1 := ⟨⟨_, b.d_are_moves, fa_xare_moves_1 b⟩⟩
/-! Plant.__init__ -/
abbrev s_xPlantDUinitU : Stmt := inClass (top 31) 0
def N_xPlantDUinitU : List Str := ["self", "moves", "bad", "goal", "marks", "place"]
def m_xPlantDUinitU : MS := sSeq (sIf (mNotT (mTr (mL F_xare_moves_1 (aCons (mVar 1) (aNil))))) (sRaise 21) (sNil)) (sSeq (sFor (iAny (mTup (aCons (mVar 2) (aCons (mVar 3) (aNil))))) (gN 4) (sIf (mNotT (mTr (mL F_xare_ascending_2 (aCons (mVar 4) (aCons (mL (f1 fLen) (aCons (mVar 1) (aNil))) (aNil)))))) (sRaise 22) (sNil))) (sSeq (sIf (mTr (mL (f1 fAny) (aCons (mComp (iAny (mVar 2)) (gN 5) (tYesM) (m2 (fMem false) (mVar 5) (mVar 3)) [5]) (aNil)))) (sRaise 22) (sNil)) (sSeq (sFld .rows (mVar 0) (mVar 1)) (sFld .marks (mVar 0) (mTup (aCons (mVar 2) (aCons (mVar 3) (aNil))))))))
theorem sc_xPlantDUinitU : FnScope N_xPlantDUinitU ["self", "moves", "bad", "goal"] (defScope s_xPlantDUinitU) := ⟨rfl, rfl, rfl, by decide +kernel, rfl, by decide +kernel, by decide +kernel⟩
set_option maxHeartbeats 4000000 in
theorem d_xPlantDUinitU (b : B g) : SB g N_xPlantDUinitU (dsc (defScope s_xPlantDUinitU)) 3 (defBody s_xPlantDUinitU) m_xPlantDUinitU :=
  sb_cons (ss_if (st_not (st_tr (se_call (fo_xare_moves_1 b) (sa_cons (se_var 1) (sa_nil))))) (sb_one (ss_raise b.x_NoMoves)) (sb_nil)) (sb_cons (ss_for (si_any (se_tup (sa_cons (se_var 2) (sa_cons (se_var 3) (sa_nil))))) (sg_name 4) (sb_one (ss_if (st_not (st_tr (se_call (fo_xare_ascending_2 b) (sa_cons (se_var 4) (sa_cons (se_callB o_len b.f_len (by decide +kernel) (sa_cons (se_var 1) (sa_nil))) (sa_nil)))))) (sb_one (ss_raise b.x_NoMarks)) (sb_nil)))) (sb_cons (ss_if (st_tr (se_callB o_any b.f_any (by decide +kernel) (sa_cons (se_comp [("place", 5)] (si_any (se_var 2)) (sg_name 5) (sts_nil) (se_cmp o_in (se_var 5) (se_var 3))) (sa_nil)))) (sb_one (ss_raise b.x_NoMarks)) (sb_nil)) (sb_cons (ss_fld b.cf .rows (se_var 0) (se_var 1)) (sb_one (ss_fld b.cf .marks (se_var 0) (se_tup (sa_cons (se_var 2) (sa_cons (se_var 3) (sa_nil)))))))))
def F_xPlantDUinitU_4 : FD := fdD (runF 6 m_xPlantDUinitU) 4 []
theorem fa_xPlantDUinitU_4 (b : B g) : FA g 4 (df_xPlantDUinitU.ad g.K) F_xPlantDUinitU_4 := by
  obtain ⟨fd, F⟩ := b.q_xPlantDUinitU
  exact FA.of1 (ps := ["self", "moves", "bad", "goal"]) 4 2 F sc_xPlantDUinitU (d_xPlantDUinitU b) (by intro z; cases z) rfl (fun _ _ _ _ _ _ _ us its hu hi => match us, its, hu, hi with | [_, _, _, _], [_, _], _, _ => ⟨_, rfl, rfl⟩) (fun _ _ => RepL.nil)
def C_Plant_3 : FD := mkD 0 F_xPlantDUinitU_4
theorem mk_Plant_3 (b : B g) : MK g 4 "Plant" C_Plant_3 := MK.ofD b.g_Plant b.m_Plant b.k_Plant (fa_xPlantDUinitU_4 b)
/-! _law_made -/
abbrev s_x_law_made : Stmt := top 60
def N_x_law_made : List Str := ["_law_parts_here"]
def m_x_law_made : MS := sRet (mL C_Plant_3 (aCons (m2 fIxD (mVar 0) (mC (.int 0))) (aCons (m2 fIxD (mVar 0) (mC (.int 1))) (aCons (m2 fIxD (mVar 0) (mC (.int 2))) (aNil)))))
theorem sc_x_law_made : FnScope N_x_law_made ["_law_parts_here"] (defScope s_x_law_made) := ⟨rfl, rfl, rfl, by decide +kernel, rfl, by decide +kernel, by decide +kernel⟩
set_option maxHeartbeats 4000000 in
theorem d_x_law_made (b : B g) : SB g N_x_law_made (dsc (defScope s_x_law_made)) 5 (defBody s_x_law_made) m_x_law_made :=
  sb_one (ss_ret (se_make (mk_Plant_3 b) (sa_cons (se_ix o_ixD (se_var 0) (se_int)) (sa_cons (se_ix o_ixD (se_var 0) (se_int)) (sa_cons (se_ix o_ixD (se_var 0) (se_int)) (sa_nil))))))
def F_x_law_made_1 : FD := fdD (frD (runF 1 m_x_law_made)) 1 []
theorem fa_x_law_made_1 (b : B g) : FA g 6 (df_x_law_made.ad g.K) F_x_law_made_1 := by
  obtain ⟨fd, F⟩ := b.q_x_law_made
  exact FA.of0F (ps := ["_law_parts_here"]) F sc_x_law_made (d_x_law_made b) fun _ _ _ _ _ _ us hl => match us, hl with | [_], _ => rfl
theorem fo_x_law_made_1 (b : B g) : FO g 6 "_law_made" F_x_law_made_1 := ⟨⟨_, b.d__law_made, fa_x_law_made_1 b⟩⟩
/-! _law_draw -/
abbrev s_x_law_draw : Stmt := top 53
def N_x_law_draw : List Str := ["_law_pen_here", "_law_many", "_law_mixed", "_law_found"]
def m_x_law_draw : MS := sSeq (sIf (mB (m2 fGt (m2 fIxD (mVar 0) (mC (.int 0))) (mC (.int 0)))) (sSeq (sSet 3 (m2 (fII iMod) (m2 fIxD (mVar 0) (mC (.int 0))) (mVar 1))) (sSeq (sPut (mVar 0) (mC (.int 0)) (m2 (fII iDiv) (m2 fIxD (mVar 0) (mC (.int 0))) (mVar 1))) (sRet (mVar 3)))) (sNil)) (sSeq (sPut (mVar 0) (mC (.int 2)) (m2 fAddG (m2 fIxD (mVar 0) (mC (.int 2))) (mC (.int 1)))) (sSeq (sPut (mVar 0) (mC (.int 1)) (m2 (fII iMod) (m2 fAddG (m2 fAddG (m2 fMul (m2 fIxD (mVar 0) (mC (.int 1))) (mC (.int 48271))) (m2 fMul (mC (.int 1009)) (m2 fIxD (mVar 0) (mC (.int 2))))) (mC (.int 7))) (mC (.int 2147483647)))) (sSeq (sSet 2 (m2 (fII iMod) (m2 fAddG (m2 fAddG (m2 fMul (m2 fIxD (mVar 0) (mC (.int 1))) (m2 fIxD (mVar 0) (mC (.int 1)))) (m2 fMul (mC (.int 69621)) (m2 fIxD (mVar 0) (mC (.int 1))))) (mC (.int 11))) (mC (.int 2147483629)))) (sSeq (sSet 2 (m2 (fII iMod) (m2 fAddG (m2 fMul (mVar 2) (mVar 2)) (m2 fMul (mC (.int 40014)) (mVar 2))) (mC (.int 2147483587)))) (sRet (m2 (fII iMod) (m2 (fII iDiv) (mVar 2) (mC (.int 16))) (mVar 1)))))))
theorem sc_x_law_draw : FnScope N_x_law_draw ["_law_pen_here", "_law_many"] (defScope s_x_law_draw) := ⟨rfl, rfl, rfl, by decide +kernel, rfl, by decide +kernel, by decide +kernel⟩
set_option maxHeartbeats 4000000 in
theorem d_x_law_draw (b : B g) : SB g N_x_law_draw (dsc (defScope s_x_law_draw)) 0 (defBody s_x_law_draw) m_x_law_draw :=
  sb_cons (ss_if (st_cmp o_gt (se_ix o_ixD (se_var 0) (se_int)) (se_int)) (sb_cons (ss_set 3 (se_op o_mod (se_ix o_ixD (se_var 0) (se_int)) (se_var 1))) (sb_cons (ss_put (se_var 0) (se_int) (se_op o_div (se_ix o_ixD (se_var 0) (se_int)) (se_var 1))) (sb_one (ss_ret (se_var 3))))) (sb_nil)) (sb_cons (ss_put (se_var 0) (se_int) (se_op o_addG (se_ix o_ixD (se_var 0) (se_int)) (se_int))) (sb_cons (ss_put (se_var 0) (se_int) (se_op o_mod (se_op o_addG (se_op o_addG (se_op o_mulA (se_ix o_ixD (se_var 0) (se_int)) (se_int)) (se_op o_mulA (se_int) (se_ix o_ixD (se_var 0) (se_int)))) (se_int)) (se_int))) (sb_cons (ss_set 2 (se_op o_mod (se_op o_addG (se_op o_addG (se_op o_mulA (se_ix o_ixD (se_var 0) (se_int)) (se_ix o_ixD (se_var 0) (se_int))) (se_op o_mulA (se_int) (se_ix o_ixD (se_var 0) (se_int)))) (se_int)) (se_int))) (sb_cons (ss_set 2 (se_op o_mod (se_op o_addG (se_op o_mulA (se_var 2) (se_var 2)) (se_op o_mulA (se_int) (se_var 2))) (se_int))) (sb_one (ss_ret (se_op o_mod (se_op o_div (se_var 2) (se_int)) (se_var 1))))))))
def F_x_law_draw_2 : FD := fdD (runF 4 m_x_law_draw) 2 []
theorem fa_x_law_draw_2 (b : B g) : FA g 1 (df_x_law_draw.ad g.K) F_x_law_draw_2 := by
  obtain ⟨fd, F⟩ := b.q_x_law_draw
  exact FA.of0 (ps := ["_law_pen_here", "_law_many"]) F sc_x_law_draw (d_x_law_draw b) fun _ _ _ _ _ _ us hl => match us, hl with | [_, _], _ => rfl
theorem fo_x_law_draw_2 (b : B g) : FO g 1 "_law_draw" F_x_law_draw_2 := ⟨⟨_, b.d__law_draw, fa_x_law_draw_2 b⟩⟩
/-! _law_numbers -/
abbrev s_x_law_numbers : Stmt := top 66
def N_x_law_numbers : List Str := ["_law_pen_here", "_law_most", "_law_late"]
def m_x_law_numbers : MS := sSeq (sSet 2 (mL F_x_law_draw_2 (aCons (mVar 0) (aCons (m2 fAddG (mVar 1) (mC (.int 1))) (aNil))))) (sRet (mTup (aCons (mVar 2) (aCons (mL F_x_law_draw_2 (aCons (mVar 0) (aCons (m2 fSub (m2 fAddG (mVar 1) (mC (.int 1))) (mVar 2)) (aNil)))) (aNil)))))
theorem sc_x_law_numbers : FnScope N_x_law_numbers ["_law_pen_here", "_law_most"] (defScope s_x_law_numbers) := ⟨rfl, rfl, rfl, by decide +kernel, rfl, by decide +kernel, by decide +kernel⟩
set_option maxHeartbeats 4000000 in
theorem d_x_law_numbers (b : B g) : SB g N_x_law_numbers (dsc (defScope s_x_law_numbers)) 1 (defBody s_x_law_numbers) m_x_law_numbers :=
  sb_cons (ss_set 2 (se_call (fo_x_law_draw_2 b) (sa_cons (se_var 0) (sa_cons (se_op o_addG (se_var 1) (se_int)) (sa_nil))))) (sb_one (ss_ret (se_tup (sa_cons (se_var 2) (sa_cons (se_call (fo_x_law_draw_2 b) (sa_cons (se_var 0) (sa_cons (se_op o_sub (se_op o_addG (se_var 1) (se_int)) (se_var 2)) (sa_nil)))) (sa_nil))))))
def F_x_law_numbers_2 : FD := fdD (runF 3 m_x_law_numbers) 2 []
theorem fa_x_law_numbers_2 (b : B g) : FA g 2 (df_x_law_numbers.ad g.K) F_x_law_numbers_2 := by
  obtain ⟨fd, F⟩ := b.q_x_law_numbers
  exact FA.of0 (ps := ["_law_pen_here", "_law_most"]) F sc_x_law_numbers (d_x_law_numbers b) fun _ _ _ _ _ _ us hl => match us, hl with | [_, _], _ => rfl
theorem fo_x_law_numbers_2 (b : B g) : FO g 2 "_law_numbers" F_x_law_numbers_2 := ⟨⟨_, b.d__law_numbers, fa_x_law_numbers_2 b⟩⟩
/-! need_number -/
abbrev s_xneed_number : Stmt := top 41
def N_xneed_number : List Str := ["thing", "low", "high"]
def m_xneed_number : MS := sIf (mNotT (mTr (mL F_xis_between_3 (aCons (mVar 0) (aCons (mVar 1) (aCons (mVar 2) (aNil))))))) (sRaise 28) (sNil)
theorem sc_xneed_number : FnScope N_xneed_number ["thing", "low", "high"] (defScope s_xneed_number) := ⟨rfl, rfl, rfl, by decide +kernel, rfl, by decide +kernel, by decide +kernel⟩
set_option maxHeartbeats 4000000 in
theorem d_xneed_number (b : B g) : SB g N_xneed_number (dsc (defScope s_xneed_number)) 1 (defBody s_xneed_number) m_xneed_number :=
  sb_one (ss_if (st_not (st_tr (se_call (fo_xis_between_3 b) (sa_cons (se_var 0) (sa_cons (se_var 1) (sa_cons (se_var 2) (sa_nil))))))) (sb_one (ss_raise b.x_NoNumber)) (sb_nil))
def F_xneed_number_3 : FD := fdD (frD (runF 3 m_xneed_number)) 3 []
theorem fa_xneed_number_3 (b : B g) : FA g 2 (df_xneed_number.ad g.K) F_xneed_number_3 := by
  obtain ⟨fd, F⟩ := b.q_xneed_number
  exact FA.of0F (ps := ["thing", "low", "high"]) F sc_xneed_number (d_xneed_number b) fun _ _ _ _ _ _ us hl => match us, hl with | [_, _, _], _ => rfl
theorem fo_xneed_number_3 (b : B g) : FO g 2 "need_number" F_xneed_number_3 := ⟨⟨_, b.d_need_number, fa_xneed_number_3 b⟩⟩
/-! numbers_of -/
abbrev s_xnumbers_of : Stmt := top 44
def N_xnumbers_of : List Str := ["beats", "most"]
def m_xnumbers_of : MS := sSeq (sExpr (mL F_xneed_number_3 (aCons (mVar 0) (aCons (mC (.int 0)) (aCons (mC (.int 4)) (aNil)))))) (sSeq (sExpr (mL F_xneed_number_3 (aCons (mVar 1) (aCons (mC (.int 0)) (aCons (mC (.int 4)) (aNil)))))) (sSeq (sIf (mB (m2 fGt (m2 fAddG (mVar 0) (mVar 1)) (mC (.int 4)))) (sRaise 31) (sNil)) (sRet (mTup (aCons (mVar 0) (aCons (mVar 1) (aNil)))))))
theorem sc_xnumbers_of : FnScope N_xnumbers_of ["beats", "most"] (defScope s_xnumbers_of) := ⟨rfl, rfl, rfl, by decide +kernel, rfl, by decide +kernel, by decide +kernel⟩
set_option maxHeartbeats 4000000 in
theorem d_xnumbers_of (b : B g) : SB g N_xnumbers_of (dsc (defScope s_xnumbers_of)) 2 (defBody s_xnumbers_of) m_xnumbers_of :=
  sb_cons (ss_expr (se_call (fo_xneed_number_3 b) (sa_cons (se_var 0) (sa_cons (se_int) (sa_cons (se_gint b.i_MOST) (sa_nil)))))) (sb_cons (ss_expr (se_call (fo_xneed_number_3 b) (sa_cons (se_var 1) (sa_cons (se_int) (sa_cons (se_gint b.i_MOST) (sa_nil)))))) (sb_cons (ss_if (st_cmp o_gt (se_op o_addG (se_var 0) (se_var 1)) (se_gint b.i_MOST)) (sb_one (ss_raise b.x_TooMuch)) (sb_nil)) (sb_one (ss_ret (se_tup (sa_cons (se_var 0) (sa_cons (se_var 1) (sa_nil))))))))
def F_xnumbers_of_2 : FD := fdD (frD (runF 2 m_xnumbers_of)) 2 []
theorem fa_xnumbers_of_2 (b : B g) : FA g 3 (df_xnumbers_of.ad g.K) F_xnumbers_of_2 := by
  obtain ⟨fd, F⟩ := b.q_xnumbers_of
  exact FA.of0F (ps := ["beats", "most"]) F sc_xnumbers_of (d_xnumbers_of b) fun _ _ _ _ _ _ us hl => match us, hl with | [_, _], _ => rfl
theorem fo_xnumbers_of_2 (b : B g) : FO g 3 "numbers_of" F_xnumbers_of_2 := ⟨⟨_, b.d_numbers_of, fa_xnumbers_of_2 b⟩⟩
/-! Late.__init__ -/
abbrev s_xLateDUinitU : Stmt := inClass (top 46) 0
def N_xLateDUinitU : List Str := ["self", "beats"]
def m_xLateDUinitU : MS := sFld .numbers (mVar 0) (mL F_xnumbers_of_2 (aCons (mVar 1) (aCons (mC (.int 0)) (aNil))))
theorem sc_xLateDUinitU : FnScope N_xLateDUinitU ["self", "beats"] (defScope s_xLateDUinitU) := ⟨rfl, rfl, rfl, by decide +kernel, rfl, by decide +kernel, by decide +kernel⟩
set_option maxHeartbeats 4000000 in
theorem d_xLateDUinitU (b : B g) : SB g N_xLateDUinitU (dsc (defScope s_xLateDUinitU)) 3 (defBody s_xLateDUinitU) m_xLateDUinitU :=
  sb_one (ss_fld b.cf .numbers (se_var 0) (se_call (fo_xnumbers_of_2 b) (sa_cons (se_var 1) (sa_cons (se_int) (sa_nil)))))
def F_xLateDUinitU_2 : FD := fdD (runF 2 m_xLateDUinitU) 2 []
theorem fa_xLateDUinitU_2 (b : B g) : FA g 4 (df_xLateDUinitU.ad g.K) F_xLateDUinitU_2 := by
  obtain ⟨fd, F⟩ := b.q_xLateDUinitU
  exact FA.of0 (ps := ["self", "beats"]) F sc_xLateDUinitU (d_xLateDUinitU b) fun _ _ _ _ _ _ us hl => match us, hl with | [_, _], _ => rfl
def C_Late_1 : FD := mkD 2 F_xLateDUinitU_2
theorem mk_Late_1 (b : B g) : MK g 4 "Late" C_Late_1 := MK.ofD b.g_Late b.m_Late b.k_Late (fa_xLateDUinitU_2 b)
/-! Lost.__init__ -/
abbrev s_xLostDUinitU : Stmt := inClass (top 47) 0
def N_xLostDUinitU : List Str := ["self", "most"]
def m_xLostDUinitU : MS := sFld .numbers (mVar 0) (mL F_xnumbers_of_2 (aCons (mC (.int 0)) (aCons (mVar 1) (aNil))))
theorem sc_xLostDUinitU : FnScope N_xLostDUinitU ["self", "most"] (defScope s_xLostDUinitU) := ⟨rfl, rfl, rfl, by decide +kernel, rfl, by decide +kernel, by decide +kernel⟩
set_option maxHeartbeats 4000000 in
theorem d_xLostDUinitU (b : B g) : SB g N_xLostDUinitU (dsc (defScope s_xLostDUinitU)) 3 (defBody s_xLostDUinitU) m_xLostDUinitU :=
  sb_one (ss_fld b.cf .numbers (se_var 0) (se_call (fo_xnumbers_of_2 b) (sa_cons (se_int) (sa_cons (se_var 1) (sa_nil)))))
def F_xLostDUinitU_2 : FD := fdD (runF 2 m_xLostDUinitU) 2 []
theorem fa_xLostDUinitU_2 (b : B g) : FA g 4 (df_xLostDUinitU.ad g.K) F_xLostDUinitU_2 := by
  obtain ⟨fd, F⟩ := b.q_xLostDUinitU
  exact FA.of0 (ps := ["self", "most"]) F sc_xLostDUinitU (d_xLostDUinitU b) fun _ _ _ _ _ _ us hl => match us, hl with | [_, _], _ => rfl
def C_Lost_1 : FD := mkD 3 F_xLostDUinitU_2
theorem mk_Lost_1 (b : B g) : MK g 4 "Lost" C_Lost_1 := MK.ofD b.g_Lost b.m_Lost b.k_Lost (fa_xLostDUinitU_2 b)
/-! LateLost.__init__ -/
abbrev s_xLateLostDUinitU : Stmt := inClass (top 48) 0
def N_xLateLostDUinitU : List Str := ["self", "beats", "most"]
def m_xLateLostDUinitU : MS := sFld .numbers (mVar 0) (mL F_xnumbers_of_2 (aCons (mVar 1) (aCons (mVar 2) (aNil))))
theorem sc_xLateLostDUinitU : FnScope N_xLateLostDUinitU ["self", "beats", "most"] (defScope s_xLateLostDUinitU) := ⟨rfl, rfl, rfl, by decide +kernel, rfl, by decide +kernel, by decide +kernel⟩
set_option maxHeartbeats 4000000 in
theorem d_xLateLostDUinitU (b : B g) : SB g N_xLateLostDUinitU (dsc (defScope s_xLateLostDUinitU)) 3 (defBody s_xLateLostDUinitU) m_xLateLostDUinitU :=
  sb_one (ss_fld b.cf .numbers (se_var 0) (se_call (fo_xnumbers_of_2 b) (sa_cons (se_var 1) (sa_cons (se_var 2) (sa_nil)))))
def F_xLateLostDUinitU_3 : FD := fdD (runF 3 m_xLateLostDUinitU) 3 []
theorem fa_xLateLostDUinitU_3 (b : B g) : FA g 4 (df_xLateLostDUinitU.ad g.K) F_xLateLostDUinitU_3 := by
  obtain ⟨fd, F⟩ := b.q_xLateLostDUinitU
  exact FA.of0 (ps := ["self", "beats", "most"]) F sc_xLateLostDUinitU (d_xLateLostDUinitU b) fun _ _ _ _ _ _ us hl => match us, hl with | [_, _, _], _ => rfl
def C_LateLost_2 : FD := mkD 4 F_xLateLostDUinitU_3
theorem mk_LateLost_2 (b : B g) : MK g 4 "LateLost" C_LateLost_2 := MK.ofD b.g_LateLost b.m_LateLost b.k_LateLost (fa_xLateLostDUinitU_3 b)
/-! _law_news -/
abbrev s_x_law_news : Stmt := top 65
def N_x_law_news : List Str := ["_law_late", "_law_lost", "_law_turn"]
def m_x_law_news : MS := sSeq (sIf (mAndT (mB (m2 fEq (mVar 1) (mC (.int 0)))) (mB (m2 fEq (mVar 2) (mC (.int 0))))) (sRet (mL C_Late_1 (aCons (mVar 0) (aNil)))) (sNil)) (sRet (mIf (mAndT (mB (m2 fEq (mVar 0) (mC (.int 0)))) (mB (m2 fEq (mVar 2) (mC (.int 0))))) (mL C_Lost_1 (aCons (mVar 1) (aNil))) (mL C_LateLost_2 (aCons (mVar 0) (aCons (mVar 1) (aNil))))))
theorem sc_x_law_news : FnScope N_x_law_news ["_law_late", "_law_lost", "_law_turn"] (defScope s_x_law_news) := ⟨rfl, rfl, rfl, by decide +kernel, rfl, by decide +kernel, by decide +kernel⟩
set_option maxHeartbeats 4000000 in
theorem d_x_law_news (b : B g) : SB g N_x_law_news (dsc (defScope s_x_law_news)) 5 (defBody s_x_law_news) m_x_law_news :=
  sb_cons (ss_if (st_w (sw_and (st_cmp o_eq (se_var 1) (se_int)) (sw_and1 (st_cmp o_eq (se_var 2) (se_int))))) (sb_one (ss_ret (se_make (mk_Late_1 b) (sa_cons (se_var 0) (sa_nil))))) (sb_nil)) (sb_one (ss_ret (se_if (st_w (sw_and (st_cmp o_eq (se_var 0) (se_int)) (sw_and1 (st_cmp o_eq (se_var 2) (se_int))))) (se_make (mk_Lost_1 b) (sa_cons (se_var 1) (sa_nil))) (se_make (mk_LateLost_2 b) (sa_cons (se_var 0) (sa_cons (se_var 1) (sa_nil)))))))
def F_x_law_news_3 : FD := fdD (frD (runF 3 m_x_law_news)) 3 []
theorem fa_x_law_news_3 (b : B g) : FA g 6 (df_x_law_news.ad g.K) F_x_law_news_3 := by
  obtain ⟨fd, F⟩ := b.q_x_law_news
  exact FA.of0F (ps := ["_law_late", "_law_lost", "_law_turn"]) F sc_x_law_news (d_x_law_news b) fun _ _ _ _ _ _ us hl => match us, hl with | [_, _, _], _ => rfl
theorem fo_x_law_news_3 (b : B g) : FO g 6 "_law_news" F_x_law_news_3 := ⟨⟨_, b.d__law_news, fa_x_law_news_3 b⟩⟩
/-! Plant.orders -/
abbrev s_xPlantDorders : Stmt := inClass (top 31) 5
def N_xPlantDorders : List Str := ["self"]
def m_xPlantDorders : MS := sRet (mL (f1 fLen) (aCons (m2 fIxD (m1 (fFld .rows) (mVar 0)) (mC (.int 0))) (aNil)))
theorem sc_xPlantDorders : FnScope N_xPlantDorders ["self"] (defScope s_xPlantDorders) := ⟨rfl, rfl, rfl, by decide +kernel, rfl, by decide +kernel, by decide +kernel⟩
set_option maxHeartbeats 4000000 in
theorem d_xPlantDorders (b : B g) : SB g N_xPlantDorders (dsc (defScope s_xPlantDorders)) 0 (defBody s_xPlantDorders) m_xPlantDorders :=
  sb_one (ss_ret (se_callB o_len b.f_len (by decide +kernel) (sa_cons (se_ix o_ixD (se_fld b.cf .rows (se_var 0)) (se_int)) (sa_nil))))
def F_xPlantDorders_1 : FD := fdD (runF 1 m_xPlantDorders) 1 []
theorem fa_xPlantDorders_1 (b : B g) : FA g 1 (df_xPlantDorders.ad g.K) F_xPlantDorders_1 := by
  obtain ⟨fd, F⟩ := b.q_xPlantDorders
  exact FA.of0 (ps := ["self"]) F sc_xPlantDorders (d_xPlantDorders b) fun _ _ _ _ _ _ us hl => match us, hl with | [_], _ => rfl
def P_orders : TBL := [(0, F_xPlantDorders_1)]
theorem p_P_orders (b : B g) : PA1 g 1 "orders" (TBL.f P_orders) := PA1.cons (by decide) b.k_Plant b.p_Plant_orders ((fa_xPlantDorders_1 b).up (by decide)) (PA1.nil)
/-! Plant.places -/
abbrev s_xPlantDplaces : Stmt := inClass (top 31) 4
def N_xPlantDplaces : List Str := ["self"]
def m_xPlantDplaces : MS := sRet (mL (f1 fLen) (aCons (m1 (fFld .rows) (mVar 0)) (aNil)))
theorem sc_xPlantDplaces : FnScope N_xPlantDplaces ["self"] (defScope s_xPlantDplaces) := ⟨rfl, rfl, rfl, by decide +kernel, rfl, by decide +kernel, by decide +kernel⟩
set_option maxHeartbeats 4000000 in
theorem d_xPlantDplaces (b : B g) : SB g N_xPlantDplaces (dsc (defScope s_xPlantDplaces)) 0 (defBody s_xPlantDplaces) m_xPlantDplaces :=
  sb_one (ss_ret (se_callB o_len b.f_len (by decide +kernel) (sa_cons (se_fld b.cf .rows (se_var 0)) (sa_nil))))
def F_xPlantDplaces_1 : FD := fdD (runF 1 m_xPlantDplaces) 1 []
theorem fa_xPlantDplaces_1 (b : B g) : FA g 1 (df_xPlantDplaces.ad g.K) F_xPlantDplaces_1 := by
  obtain ⟨fd, F⟩ := b.q_xPlantDplaces
  exact FA.of0 (ps := ["self"]) F sc_xPlantDplaces (d_xPlantDplaces b) fun _ _ _ _ _ _ us hl => match us, hl with | [_], _ => rfl
def P_places : TBL := [(0, F_xPlantDplaces_1)]
theorem p_P_places (b : B g) : PA1 g 1 "places" (TBL.f P_places) := PA1.cons (by decide) b.k_Plant b.p_Plant_places ((fa_xPlantDplaces_1 b).up (by decide)) (PA1.nil)
/-! Plant.__repr__ -/
abbrev s_xPlantDUreprU : Stmt := inClass (top 31) 12
def N_xPlantDUreprU : List Str := ["self"]
def m_xPlantDUreprU : MS := sRet (jsL (mC (.str [80, 108, 97, 110, 116, 40]) :: m1 fFmt (mProp (TBL.f P_places) (mVar 0)) :: mC (.str [32, 112, 108, 97, 99, 101, 115, 44, 32]) :: m1 fFmt (mProp (TBL.f P_orders) (mVar 0)) :: mC (.str [32, 111, 114, 100, 101, 114, 115, 41]) :: []) [])
theorem sc_xPlantDUreprU : FnScope N_xPlantDUreprU ["self"] (defScope s_xPlantDUreprU) := ⟨rfl, rfl, rfl, by decide +kernel, rfl, by decide +kernel, by decide +kernel⟩
set_option maxHeartbeats 4000000 in
theorem d_xPlantDUreprU (b : B g) : SB g N_xPlantDUreprU (dsc (defScope s_xPlantDUreprU)) 2 (defBody s_xPlantDUreprU) m_xPlantDUreprU :=
  sb_one (ss_ret (se_js (.cons (se_str) (.cons (se_fmt (se_prop b.cf (p_P_places b) (se_var 0))) (.cons (se_str) (.cons (se_fmt (se_prop b.cf (p_P_orders b) (se_var 0))) (.cons (se_str) (.nil))))))))
def F_xPlantDUreprU_1 : FD := fdD (runF 1 m_xPlantDUreprU) 1 []
theorem fa_xPlantDUreprU_1 (b : B g) : FA g 3 (df_xPlantDUreprU.ad g.K) F_xPlantDUreprU_1 := by
  obtain ⟨fd, F⟩ := b.q_xPlantDUreprU
  exact FA.of0 (ps := ["self"]) F sc_xPlantDUreprU (d_xPlantDUreprU b) fun _ _ _ _ _ _ us hl => match us, hl with | [_], _ => rfl
/-! News.late -/
abbrev s_xNewsDlate : Stmt := inClass (top 45) 0
def N_xNewsDlate : List Str := ["self"]
def m_xNewsDlate : MS := sRet (m2 fIxD (m1 (fFld .numbers) (mVar 0)) (mC (.int 0)))
theorem sc_xNewsDlate : FnScope N_xNewsDlate ["self"] (defScope s_xNewsDlate) := ⟨rfl, rfl, rfl, by decide +kernel, rfl, by decide +kernel, by decide +kernel⟩
set_option maxHeartbeats 4000000 in
theorem d_xNewsDlate (b : B g) : SB g N_xNewsDlate (dsc (defScope s_xNewsDlate)) 0 (defBody s_xNewsDlate) m_xNewsDlate :=
  sb_one (ss_ret (se_ix o_ixD (se_fld b.cf .numbers (se_var 0)) (se_int)))
def F_xNewsDlate_1 : FD := fdD (runF 1 m_xNewsDlate) 1 []
theorem fa_xNewsDlate_1 (b : B g) : FA g 1 (df_xNewsDlate.ad g.K) F_xNewsDlate_1 := by
  obtain ⟨fd, F⟩ := b.q_xNewsDlate
  exact FA.of0 (ps := ["self"]) F sc_xNewsDlate (d_xNewsDlate b) fun _ _ _ _ _ _ us hl => match us, hl with | [_], _ => rfl
def P_late : TBL := [(1, F_xNewsDlate_1), (2, F_xNewsDlate_1), (3, F_xNewsDlate_1), (4, F_xNewsDlate_1)]
theorem p_P_late (b : B g) : PA1 g 1 "late" (TBL.f P_late) := PA1.cons (by decide) b.k_News b.p_News_late ((fa_xNewsDlate_1 b).up (by decide)) (PA1.cons (by decide) b.k_Late b.p_Late_late ((fa_xNewsDlate_1 b).up (by decide)) (PA1.cons (by decide) b.k_Lost b.p_Lost_late ((fa_xNewsDlate_1 b).up (by decide)) (PA1.cons (by decide) b.k_LateLost b.p_LateLost_late ((fa_xNewsDlate_1 b).up (by decide)) (PA1.nil))))
/-! Late.__repr__ -/
abbrev s_xLateDUreprU : Stmt := inClass (top 46) 1
def N_xLateDUreprU : List Str := ["self"]
def m_xLateDUreprU : MS := sRet (jsL (mC (.str [76, 97, 116, 101, 40]) :: m1 fFmt (mProp (TBL.f P_late) (mVar 0)) :: mC (.str [41]) :: []) [])
theorem sc_xLateDUreprU : FnScope N_xLateDUreprU ["self"] (defScope s_xLateDUreprU) := ⟨rfl, rfl, rfl, by decide +kernel, rfl, by decide +kernel, by decide +kernel⟩
set_option maxHeartbeats 4000000 in
theorem d_xLateDUreprU (b : B g) : SB g N_xLateDUreprU (dsc (defScope s_xLateDUreprU)) 2 (defBody s_xLateDUreprU) m_xLateDUreprU :=
  sb_one (ss_ret (se_js (.cons (se_str) (.cons (se_fmt (se_prop b.cf (p_P_late b) (se_var 0))) (.cons (se_str) (.nil))))))
def F_xLateDUreprU_1 : FD := fdD (runF 1 m_xLateDUreprU) 1 []
theorem fa_xLateDUreprU_1 (b : B g) : FA g 3 (df_xLateDUreprU.ad g.K) F_xLateDUreprU_1 := by
  obtain ⟨fd, F⟩ := b.q_xLateDUreprU
  exact FA.of0 (ps := ["self"]) F sc_xLateDUreprU (d_xLateDUreprU b) fun _ _ _ _ _ _ us hl => match us, hl with | [_], _ => rfl
/-! News.lost -/
abbrev s_xNewsDlost : Stmt := inClass (top 45) 1
def N_xNewsDlost : List Str := ["self"]
def m_xNewsDlost : MS := sRet (m2 fIxD (m1 (fFld .numbers) (mVar 0)) (mC (.int 1)))
theorem sc_xNewsDlost : FnScope N_xNewsDlost ["self"] (defScope s_xNewsDlost) := ⟨rfl, rfl, rfl, by decide +kernel, rfl, by decide +kernel, by decide +kernel⟩
set_option maxHeartbeats 4000000 in
theorem d_xNewsDlost (b : B g) : SB g N_xNewsDlost (dsc (defScope s_xNewsDlost)) 0 (defBody s_xNewsDlost) m_xNewsDlost :=
  sb_one (ss_ret (se_ix o_ixD (se_fld b.cf .numbers (se_var 0)) (se_int)))
def F_xNewsDlost_1 : FD := fdD (runF 1 m_xNewsDlost) 1 []
theorem fa_xNewsDlost_1 (b : B g) : FA g 1 (df_xNewsDlost.ad g.K) F_xNewsDlost_1 := by
  obtain ⟨fd, F⟩ := b.q_xNewsDlost
  exact FA.of0 (ps := ["self"]) F sc_xNewsDlost (d_xNewsDlost b) fun _ _ _ _ _ _ us hl => match us, hl with | [_], _ => rfl
def P_lost : TBL := [(1, F_xNewsDlost_1), (2, F_xNewsDlost_1), (3, F_xNewsDlost_1), (4, F_xNewsDlost_1)]
theorem p_P_lost (b : B g) : PA1 g 1 "lost" (TBL.f P_lost) := PA1.cons (by decide) b.k_News b.p_News_lost ((fa_xNewsDlost_1 b).up (by decide)) (PA1.cons (by decide) b.k_Late b.p_Late_lost ((fa_xNewsDlost_1 b).up (by decide)) (PA1.cons (by decide) b.k_Lost b.p_Lost_lost ((fa_xNewsDlost_1 b).up (by decide)) (PA1.cons (by decide) b.k_LateLost b.p_LateLost_lost ((fa_xNewsDlost_1 b).up (by decide)) (PA1.nil))))
/-! Lost.__repr__ -/
abbrev s_xLostDUreprU : Stmt := inClass (top 47) 1
def N_xLostDUreprU : List Str := ["self"]
def m_xLostDUreprU : MS := sRet (jsL (mC (.str [76, 111, 115, 116, 40]) :: m1 fFmt (mProp (TBL.f P_lost) (mVar 0)) :: mC (.str [41]) :: []) [])
theorem sc_xLostDUreprU : FnScope N_xLostDUreprU ["self"] (defScope s_xLostDUreprU) := ⟨rfl, rfl, rfl, by decide +kernel, rfl, by decide +kernel, by decide +kernel⟩
set_option maxHeartbeats 4000000 in
theorem d_xLostDUreprU (b : B g) : SB g N_xLostDUreprU (dsc (defScope s_xLostDUreprU)) 2 (defBody s_xLostDUreprU) m_xLostDUreprU :=
  sb_one (ss_ret (se_js (.cons (se_str) (.cons (se_fmt (se_prop b.cf (p_P_lost b) (se_var 0))) (.cons (se_str) (.nil))))))
def F_xLostDUreprU_1 : FD := fdD (runF 1 m_xLostDUreprU) 1 []
theorem fa_xLostDUreprU_1 (b : B g) : FA g 3 (df_xLostDUreprU.ad g.K) F_xLostDUreprU_1 := by
  obtain ⟨fd, F⟩ := b.q_xLostDUreprU
  exact FA.of0 (ps := ["self"]) F sc_xLostDUreprU (d_xLostDUreprU b) fun _ _ _ _ _ _ us hl => match us, hl with | [_], _ => rfl
/-! LateLost.__repr__ -/
abbrev s_xLateLostDUreprU : Stmt := inClass (top 48) 1
def N_xLateLostDUreprU : List Str := ["self"]
def m_xLateLostDUreprU : MS := sRet (jsL (mC (.str [76, 97, 116, 101, 76, 111, 115, 116, 40]) :: m1 fFmt (mProp (TBL.f P_late) (mVar 0)) :: mC (.str [44, 32]) :: m1 fFmt (mProp (TBL.f P_lost) (mVar 0)) :: mC (.str [41]) :: []) [])
theorem sc_xLateLostDUreprU : FnScope N_xLateLostDUreprU ["self"] (defScope s_xLateLostDUreprU) := ⟨rfl, rfl, rfl, by decide +kernel, rfl, by decide +kernel, by decide +kernel⟩
set_option maxHeartbeats 4000000 in
theorem d_xLateLostDUreprU (b : B g) : SB g N_xLateLostDUreprU (dsc (defScope s_xLateLostDUreprU)) 2 (defBody s_xLateLostDUreprU) m_xLateLostDUreprU :=
  sb_one (ss_ret (se_js (.cons (se_str) (.cons (se_fmt (se_prop b.cf (p_P_late b) (se_var 0))) (.cons (se_str) (.cons (se_fmt (se_prop b.cf (p_P_lost b) (se_var 0))) (.cons (se_str) (.nil))))))))
def F_xLateLostDUreprU_1 : FD := fdD (runF 1 m_xLateLostDUreprU) 1 []
theorem fa_xLateLostDUreprU_1 (b : B g) : FA g 3 (df_xLateLostDUreprU.ad g.K) F_xLateLostDUreprU_1 := by
  obtain ⟨fd, F⟩ := b.q_xLateLostDUreprU
  exact FA.of0 (ps := ["self"]) F sc_xLateLostDUreprU (d_xLateLostDUreprU b) fun _ _ _ _ _ _ us hl => match us, hl with | [_], _ => rfl
def T_repr : TBL := [(0, F_xPlantDUreprU_1), (2, F_xLateDUreprU_1), (3, F_xLostDUreprU_1), (4, F_xLateLostDUreprU_1)]
theorem p_T_repr (b : B g) : DU g 3 "__repr__" (TBL.f T_repr) := DU.cons b.k_Plant b.u_Plant___repr__.1 b.u_Plant___repr__.2 ((fa_xPlantDUreprU_1 b).up (by decide)) (DU.cons b.k_Late b.u_Late___repr__.1 b.u_Late___repr__.2 ((fa_xLateDUreprU_1 b).up (by decide)) (DU.cons b.k_Lost b.u_Lost___repr__.1 b.u_Lost___repr__.2 ((fa_xLostDUreprU_1 b).up (by decide)) (DU.cons b.k_LateLost b.u_LateLost___repr__.1 b.u_LateLost___repr__.2 ((fa_xLateLostDUreprU_1 b).up (by decide)) (DU.nil))))
/-! _law_row -/
abbrev s_x_law_row : Stmt := top 63
def N_x_law_row : List Str := ["_law_pen_here", "_law_ways", "_law_most", "_law_turn"]
def m_x_law_row : MS := sRet (mL (f1 fTupOf) (aCons (mComp (iRange1 (mL F_x_law_draw_2 (aCons (mVar 0) (aCons (m2 fAddG (mVar 2) (mC (.int 1))) (aNil))))) (gN 3) (tYesM) (mL F_x_law_draw_2 (aCons (mVar 0) (aCons (mVar 1) (aNil)))) [3]) (aNil)))
theorem sc_x_law_row : FnScope N_x_law_row ["_law_pen_here", "_law_ways", "_law_most"] (defScope s_x_law_row) := ⟨rfl, rfl, rfl, by decide +kernel, rfl, by decide +kernel, by decide +kernel⟩
set_option maxHeartbeats 4000000 in
theorem d_x_law_row (b : B g) : SB g N_x_law_row (dsc (defScope s_x_law_row)) 1 (defBody s_x_law_row) m_x_law_row :=
  sb_one (ss_ret (se_callTy o_tupOf b.f_tuple (by decide +kernel) (sa_cons (se_comp [("_law_turn", 3)] (si_range1 (se_call (fo_x_law_draw_2 b) (sa_cons (se_var 0) (sa_cons (se_op o_addG (se_var 2) (se_int)) (sa_nil)))) b.f_range) (sg_name 3) (sts_nil) (se_call (fo_x_law_draw_2 b) (sa_cons (se_var 0) (sa_cons (se_var 1) (sa_nil))))) (sa_nil))))
def F_x_law_row_3 : FD := fdD (runF 4 m_x_law_row) 3 []
theorem fa_x_law_row_3 (b : B g) : FA g 2 (df_x_law_row.ad g.K) F_x_law_row_3 := by
  obtain ⟨fd, F⟩ := b.q_x_law_row
  exact FA.of0 (ps := ["_law_pen_here", "_law_ways", "_law_most"]) F sc_x_law_row (d_x_law_row b) fun _ _ _ _ _ _ us hl => match us, hl with | [_, _, _], _ => rfl
theorem fo_x_law_row_3 (b : B g) : FO g 2 "_law_row" F_x_law_row_3 := ⟨⟨_, b.d__law_row, fa_x_law_row_3 b⟩⟩
/-! _law_led -/
abbrev s_x_law_led : Stmt := top 61
def N_x_law_led : List Str := ["_law_moves_here", "_law_spots", "_law_way", "_law_found", "_law_spot", "_law_one"]
def m_x_law_led : MS := sSeq (sSet 3 (mLst (aNil))) (sSeq (sFor (iAny (mVar 1)) (gN 4) (sSet 3 (m2 fAddG (mVar 3) (mComp (iAny (m2 fIxD (m2 fIxD (mVar 0) (mVar 4)) (mVar 2))) (gN 5) (mB (m2 (fMem true) (mVar 5) (mVar 3))) (mVar 5) [5])))) (sRet (mL fSortA (aCons (mVar 3) (aNil)))))
theorem sc_x_law_led : FnScope N_x_law_led ["_law_moves_here", "_law_spots", "_law_way"] (defScope s_x_law_led) := ⟨rfl, rfl, rfl, by decide +kernel, rfl, by decide +kernel, by decide +kernel⟩
set_option maxHeartbeats 4000000 in
theorem d_x_law_led (b : B g) : SB g N_x_law_led (dsc (defScope s_x_law_led)) 0 (defBody s_x_law_led) m_x_law_led :=
  sb_cons (ss_set 3 (se_lst (sa_nil))) (sb_cons (ss_for (si_any (se_var 1)) (sg_name 4) (sb_one (ss_set 3 (se_op o_addG (se_var 3) (se_comp [("_law_one", 5)] (si_any (se_ix o_ixD (se_ix o_ixD (se_var 0) (se_var 4)) (se_var 2))) (sg_name 5) (sts_one (st_cmp o_notin (se_var 5) (se_var 3))) (se_var 5)))))) (sb_one (ss_ret (se_callB o_sortA b.f_sorted (by decide +kernel) (sa_cons (se_var 3) (sa_nil))))))
def F_x_law_led_3 : FD := fdD (frD (runF 6 m_x_law_led)) 3 []
theorem fa_x_law_led_3 (b : B g) : FA g 1 (df_x_law_led.ad g.K) F_x_law_led_3 := by
  obtain ⟨fd, F⟩ := b.q_x_law_led
  exact FA.of0F (ps := ["_law_moves_here", "_law_spots", "_law_way"]) F sc_x_law_led (d_x_law_led b) fun _ _ _ _ _ _ us hl => match us, hl with | [_, _, _], _ => rfl
theorem fo_x_law_led_3 (b : B g) : FO g 1 "_law_led" F_x_law_led_3 := ⟨⟨_, b.d__law_led, fa_x_law_led_3 b⟩⟩
/-! _law_after -/
abbrev s_x_law_after : Stmt := top 62
def N_x_law_after : List Str := ["_law_moves_here", "_law_spots", "_law_row_here", "_law_way"]
def m_x_law_after : MS := sSeq (sFor (iAny (mVar 2)) (gN 3) (sSet 1 (mL F_x_law_led_3 (aCons (mVar 0) (aCons (mVar 1) (aCons (mVar 3) (aNil))))))) (sRet (mL (f1 fLstOf) (aCons (mVar 1) (aNil))))
theorem sc_x_law_after : FnScope N_x_law_after ["_law_moves_here", "_law_spots", "_law_row_here"] (defScope s_x_law_after) := ⟨rfl, rfl, rfl, by decide +kernel, rfl, by decide +kernel, by decide +kernel⟩
set_option maxHeartbeats 4000000 in
theorem d_x_law_after (b : B g) : SB g N_x_law_after (dsc (defScope s_x_law_after)) 1 (defBody s_x_law_after) m_x_law_after :=
  sb_cons (ss_for (si_any (se_var 2)) (sg_name 3) (sb_one (ss_set 1 (se_call (fo_x_law_led_3 b) (sa_cons (se_var 0) (sa_cons (se_var 1) (sa_cons (se_var 3) (sa_nil)))))))) (sb_one (ss_ret (se_callTy o_lstOf b.f_list (by decide +kernel) (sa_cons (se_var 1) (sa_nil)))))
def F_x_law_after_3 : FD := fdD (frD (runF 4 m_x_law_after)) 3 []
theorem fa_x_law_after_3 (b : B g) : FA g 2 (df_x_law_after.ad g.K) F_x_law_after_3 := by
  obtain ⟨fd, F⟩ := b.q_x_law_after
  exact FA.of0F (ps := ["_law_moves_here", "_law_spots", "_law_row_here"]) F sc_x_law_after (d_x_law_after b) fun _ _ _ _ _ _ us hl => match us, hl with | [_, _, _], _ => rfl
theorem fo_x_law_after_3 (b : B g) : FO g 2 "_law_after" F_x_law_after_3 := ⟨⟨_, b.d__law_after, fa_x_law_after_3 b⟩⟩
/-! _law_next -/
abbrev s_x_law_next : Stmt := top 64
def N_x_law_next : List Str := ["_law_moves_here", "_law_late", "_law_lost", "_law_situation", "_law_way", "_law_longer", "_law_cut", "_law_found", "_law_one"]
def m_x_law_next : MS := sSeq (sSet 5 (m2 fAddG (m2 fIxD (mVar 3) (mC (.int 1))) (mTup (aCons (mVar 4) (aNil))))) (sSeq (sSet 6 (m2 fSub (mL (f1 fLen) (aCons (mVar 5) (aNil))) (mVar 1))) (sSeq (sIf (mB (m2 fLt (mVar 6) (mC (.int 1)))) (sRet (mLst (aCons (mTup (aCons (m2 fIxD (mVar 3) (mC (.int 0))) (aCons (mVar 5) (aNil)))) (aNil)))) (sNil)) (sSeq (sSet 7 (mComp (iAny (mL F_x_law_after_3 (aCons (mVar 0) (aCons (mLst (aCons (m2 fIxD (mVar 3) (mC (.int 0))) (aNil))) (aCons (mSl (mVar 5) (oNone) (oSome (mVar 6))) (aNil)))))) (gN 8) (tYesM) (mTup (aCons (mVar 8) (aCons (mSl (mVar 5) (oSome (mVar 6)) (oNone)) (aNil)))) [8])) (sRet (mL fSortA (aCons (m2 fAddG (mVar 7) (m2 fMul (mLst (aCons (mTup (aCons (m2 fIxD (mVar 3) (mC (.int 0))) (aCons (mVar 5) (aNil)))) (aNil))) (mL (f1 fInt) (aCons (m2 fLe (mL (f1 fLen) (aCons (mVar 5) (aNil))) (m2 fAddG (mVar 1) (mVar 2))) (aNil))))) (aNil)))))))
theorem sc_x_law_next : FnScope N_x_law_next ["_law_moves_here", "_law_late", "_law_lost", "_law_situation", "_law_way"] (defScope s_x_law_next) := ⟨rfl, rfl, rfl, by decide +kernel, rfl, by decide +kernel, by decide +kernel⟩
set_option maxHeartbeats 4000000 in
theorem d_x_law_next (b : B g) : SB g N_x_law_next (dsc (defScope s_x_law_next)) 2 (defBody s_x_law_next) m_x_law_next :=
  sb_cons (ss_set 5 (se_op o_addG (se_ix o_ixD (se_var 3) (se_int)) (se_tup (sa_cons (se_var 4) (sa_nil))))) (sb_cons (ss_set 6 (se_op o_sub (se_callB o_len b.f_len (by decide +kernel) (sa_cons (se_var 5) (sa_nil))) (se_var 1))) (sb_cons (ss_if (st_cmp o_lt (se_var 6) (se_int)) (sb_one (ss_ret (se_lst (sa_cons (se_tup (sa_cons (se_ix o_ixD (se_var 3) (se_int)) (sa_cons (se_var 5) (sa_nil)))) (sa_nil))))) (sb_nil)) (sb_cons (ss_comp 7 [("_law_one", 8)] (si_any (se_call (fo_x_law_after_3 b) (sa_cons (se_var 0) (sa_cons (se_lst (sa_cons (se_ix o_ixD (se_var 3) (se_int)) (sa_nil))) (sa_cons (se_sl (se_var 5) (so_none) (so_some (se_var 6))) (sa_nil)))))) (sg_name 8) (sts_nil) (se_tup (sa_cons (se_var 8) (sa_cons (se_sl (se_var 5) (so_some (se_var 6)) (so_none)) (sa_nil)))) (by (intro env he; exact L2.sw_true (by rw [he]; rfl) (by rw [he]; rfl) rfl (by decide +kernel)))) (sb_one (ss_ret (se_callB o_sortA b.f_sorted (by decide +kernel) (sa_cons (se_op o_addG (se_var 7) (se_op o_mulA (se_lst (sa_cons (se_tup (sa_cons (se_ix o_ixD (se_var 3) (se_int)) (sa_cons (se_var 5) (sa_nil)))) (sa_nil))) (se_callTy o_int b.f_int (by decide +kernel) (sa_cons (se_cmp o_le (se_callB o_len b.f_len (by decide +kernel) (sa_cons (se_var 5) (sa_nil))) (se_op o_addG (se_var 1) (se_var 2))) (sa_nil))))) (sa_nil))))))))
def F_x_law_next_5 : FD := fdD (frD (runF 9 m_x_law_next)) 5 []
theorem fa_x_law_next_5 (b : B g) : FA g 3 (df_x_law_next.ad g.K) F_x_law_next_5 := by
  obtain ⟨fd, F⟩ := b.q_x_law_next
  exact FA.of0F (ps := ["_law_moves_here", "_law_late", "_law_lost", "_law_situation", "_law_way"]) F sc_x_law_next (d_x_law_next b) fun _ _ _ _ _ _ us hl => match us, hl with | [_, _, _, _, _], _ => rfl
theorem fo_x_law_next_5 (b : B g) : FO g 3 "_law_next" F_x_law_next_5 := ⟨⟨_, b.d__law_next, fa_x_law_next_5 b⟩⟩
/-! _law_same -/
abbrev s_x_law_same : Stmt := top 54
def N_x_law_same : List Str := ["_law_found", "_law_due"]
def m_x_law_same : MS := sRet (mSame (mVar 0) (mVar 1))
theorem sc_x_law_same : FnScope N_x_law_same ["_law_found", "_law_due"] (defScope s_x_law_same) := ⟨rfl, rfl, rfl, by decide +kernel, rfl, by decide +kernel, by decide +kernel⟩
set_option maxHeartbeats 4000000 in
theorem d_x_law_same (b : B g) : SB g N_x_law_same (dsc (defScope s_x_law_same)) 0 (defBody s_x_law_same) m_x_law_same :=
  sb_one (ss_ret (se_same (se_var 0) (se_var 1) b.f_repr))
def F_x_law_same_2 : FD := fdD (runF 2 m_x_law_same) 2 []
theorem fa_x_law_same_2 (b : B g) : FA g 1 (df_x_law_same.ad g.K) F_x_law_same_2 := by
  obtain ⟨fd, F⟩ := b.q_x_law_same
  exact FA.of0 (ps := ["_law_found", "_law_due"]) F sc_x_law_same (d_x_law_same b) fun _ _ _ _ _ _ us hl => match us, hl with | [_, _], _ => rfl
theorem fo_x_law_same_2 (b : B g) : FO g 1 "_law_same" F_x_law_same_2 := ⟨⟨_, b.d__law_same, fa_x_law_same_2 b⟩⟩
/-! need_plant -/
abbrev s_xneed_plant : Stmt := top 25
def N_xneed_plant : List Str := ["thing"]
def m_xneed_plant : MS := sIf (mNotT (mTr (mL (f2 (fIsi isT)) (aCons (mVar 0) (aCons (mC (.cls 0)) (aNil)))))) (sRaise 23) (sNil)
theorem sc_xneed_plant : FnScope N_xneed_plant ["thing"] (defScope s_xneed_plant) := ⟨rfl, rfl, rfl, by decide +kernel, rfl, by decide +kernel, by decide +kernel⟩
set_option maxHeartbeats 4000000 in
theorem d_xneed_plant (b : B g) : SB g N_xneed_plant (dsc (defScope s_xneed_plant)) 0 (defBody s_xneed_plant) m_xneed_plant :=
  sb_one (ss_if (st_not (st_tr (se_callB (o_isi b.isf) b.f_isinstance (by decide +kernel) (sa_cons (se_var 0) (sa_cons (se_gcls b.c_Plant) (sa_nil)))))) (sb_one (ss_raise b.x_NoPlant)) (sb_nil))
def F_xneed_plant_1 : FD := fdD (frD (runF 1 m_xneed_plant)) 1 []
theorem fa_xneed_plant_1 (b : B g) : FA g 1 (df_xneed_plant.ad g.K) F_xneed_plant_1 := by
  obtain ⟨fd, F⟩ := b.q_xneed_plant
  exact FA.of0F (ps := ["thing"]) F sc_xneed_plant (d_xneed_plant b) fun _ _ _ _ _ _ us hl => match us, hl with | [_], _ => rfl
theorem fo_xneed_plant_1 (b : B g) : FO g 1 "need_plant" F_xneed_plant_1 := ⟨⟨_, b.d_need_plant, fa_xneed_plant_1 b⟩⟩
/-! Plant.__len__ -/
abbrev s_xPlantDUlenU : Stmt := inClass (top 31) 9
def N_xPlantDUlenU : List Str := ["self"]
def m_xPlantDUlenU : MS := sRet (mL (f1 fLen) (aCons (m1 (fFld .rows) (mVar 0)) (aNil)))
theorem sc_xPlantDUlenU : FnScope N_xPlantDUlenU ["self"] (defScope s_xPlantDUlenU) := ⟨rfl, rfl, rfl, by decide +kernel, rfl, by decide +kernel, by decide +kernel⟩
set_option maxHeartbeats 4000000 in
theorem d_xPlantDUlenU (b : B g) : SB g N_xPlantDUlenU (dsc (defScope s_xPlantDUlenU)) 0 (defBody s_xPlantDUlenU) m_xPlantDUlenU :=
  sb_one (ss_ret (se_callB o_len b.f_len (by decide +kernel) (sa_cons (se_fld b.cf .rows (se_var 0)) (sa_nil))))
def F_xPlantDUlenU_1 : FD := fdD (runF 1 m_xPlantDUlenU) 1 []
theorem fa_xPlantDUlenU_1 (b : B g) : FA g 1 (df_xPlantDUlenU.ad g.K) F_xPlantDUlenU_1 := by
  obtain ⟨fd, F⟩ := b.q_xPlantDUlenU
  exact FA.of0 (ps := ["self"]) F sc_xPlantDUlenU (d_xPlantDUlenU b) fun _ _ _ _ _ _ us hl => match us, hl with | [_], _ => rfl
def T_len : TBL := [(0, F_xPlantDUlenU_1)]
theorem p_T_len (b : B g) : DU g 1 "__len__" (TBL.f T_len) := DU.cons b.k_Plant b.u_Plant___len__.1 b.u_Plant___len__.2 ((fa_xPlantDUlenU_1 b).up (by decide)) (DU.nil)
/-! is_place -/
abbrev s_xis_place : Stmt := top 23
def N_xis_place : List Str := ["plant", "thing"]
def m_xis_place : MS := sRet (mL F_xis_between_3 (aCons (mVar 1) (aCons (mC (.int 0)) (aCons (m2 fSub (mL (f1 (fLenI (TBL.f T_len))) (aCons (mVar 0) (aNil))) (mC (.int 1))) (aNil)))))
theorem sc_xis_place : FnScope N_xis_place ["plant", "thing"] (defScope s_xis_place) := ⟨rfl, rfl, rfl, by decide +kernel, rfl, by decide +kernel, by decide +kernel⟩
set_option maxHeartbeats 4000000 in
theorem d_xis_place (b : B g) : SB g N_xis_place (dsc (defScope s_xis_place)) 2 (defBody s_xis_place) m_xis_place :=
  sb_one (ss_ret (se_call (fo_xis_between_3 b) (sa_cons (se_var 1) (sa_cons (se_int) (sa_cons (se_op o_sub (se_callB (o_lenI (p_T_len b)) b.f_len (by decide +kernel) (sa_cons (se_var 0) (sa_nil))) (se_int)) (sa_nil))))))
def F_xis_place_2 : FD := fdD (frD (runF 2 m_xis_place)) 2 []
theorem fa_xis_place_2 (b : B g) : FA g 3 (df_xis_place.ad g.K) F_xis_place_2 := by
  obtain ⟨fd, F⟩ := b.q_xis_place
  exact FA.of0F (ps := ["plant", "thing"]) F sc_xis_place (d_xis_place b) fun _ _ _ _ _ _ us hl => match us, hl with | [_, _], _ => rfl
theorem fo_xis_place_2 (b : B g) : FO g 3 "is_place" F_xis_place_2 := ⟨⟨_, b.d_is_place, fa_xis_place_2 b⟩⟩
/-! is_order -/
abbrev s_xis_order : Stmt := top 24
def N_xis_order : List Str := ["plant", "thing"]
def m_xis_order : MS := sRet (mL F_xis_between_3 (aCons (mVar 1) (aCons (mC (.int 0)) (aCons (m2 fSub (mProp (TBL.f P_orders) (mVar 0)) (mC (.int 1))) (aNil)))))
theorem sc_xis_order : FnScope N_xis_order ["plant", "thing"] (defScope s_xis_order) := ⟨rfl, rfl, rfl, by decide +kernel, rfl, by decide +kernel, by decide +kernel⟩
set_option maxHeartbeats 4000000 in
theorem d_xis_order (b : B g) : SB g N_xis_order (dsc (defScope s_xis_order)) 2 (defBody s_xis_order) m_xis_order :=
  sb_one (ss_ret (se_call (fo_xis_between_3 b) (sa_cons (se_var 1) (sa_cons (se_int) (sa_cons (se_op o_sub (se_prop b.cf (p_P_orders b) (se_var 0)) (se_int)) (sa_nil))))))
def F_xis_order_2 : FD := fdD (frD (runF 2 m_xis_order)) 2 []
theorem fa_xis_order_2 (b : B g) : FA g 3 (df_xis_order.ad g.K) F_xis_order_2 := by
  obtain ⟨fd, F⟩ := b.q_xis_order
  exact FA.of0F (ps := ["plant", "thing"]) F sc_xis_order (d_xis_order b) fun _ _ _ _ _ _ us hl => match us, hl with | [_, _], _ => rfl
theorem fo_xis_order_2 (b : B g) : FO g 3 "is_order" F_xis_order_2 := ⟨⟨_, b.d_is_order, fa_xis_order_2 b⟩⟩
/-! is_row -/
abbrev s_xis_row : Stmt := top 36
def N_xis_row : List Str := ["plant", "thing", "most", "one"]
def m_xis_row : MS := sRet (mAnd (mL (f2 (fIsi isT)) (aCons (mVar 1) (aCons (mC (.ty .tuple)) (aNil)))) (mAnd (m2 fLe (mL (f1 fLen) (aCons (mVar 1) (aNil))) (mVar 2)) (mL (f1 fAll) (aCons (mComp (iAny (mVar 1)) (gN 3) (tYesM) (mL F_xis_order_2 (aCons (mVar 0) (aCons (mVar 3) (aNil)))) [3]) (aNil)))))
theorem sc_xis_row : FnScope N_xis_row ["plant", "thing", "most"] (defScope s_xis_row) := ⟨rfl, rfl, rfl, by decide +kernel, rfl, by decide +kernel, by decide +kernel⟩
set_option maxHeartbeats 4000000 in
theorem d_xis_row (b : B g) : SB g N_xis_row (dsc (defScope s_xis_row)) 3 (defBody s_xis_row) m_xis_row :=
  sb_one (ss_ret (se_and (se_callB (o_isi b.isf) b.f_isinstance (by decide +kernel) (sa_cons (se_var 1) (sa_cons (se_ty .tuple b.f_tuple (by decide +kernel)) (sa_nil)))) (se_and (se_cmp o_le (se_callB o_len b.f_len (by decide +kernel) (sa_cons (se_var 1) (sa_nil))) (se_var 2)) (se_one (se_callB o_all b.f_all (by decide +kernel) (sa_cons (se_comp [("one", 3)] (si_any (se_var 1)) (sg_name 3) (sts_nil) (se_call (fo_xis_order_2 b) (sa_cons (se_var 0) (sa_cons (se_var 3) (sa_nil))))) (sa_nil)))))))
def F_xis_row_3 : FD := fdD (frD (runF 4 m_xis_row)) 3 []
theorem fa_xis_row_3 (b : B g) : FA g 4 (df_xis_row.ad g.K) F_xis_row_3 := by
  obtain ⟨fd, F⟩ := b.q_xis_row
  exact FA.of0F (ps := ["plant", "thing", "most"]) F sc_xis_row (d_xis_row b) fun _ _ _ _ _ _ us hl => match us, hl with | [_, _, _], _ => rfl
theorem fo_xis_row_3 (b : B g) : FO g 4 "is_row" F_xis_row_3 := ⟨⟨_, b.d_is_row, fa_xis_row_3 b⟩⟩
/-! is_situation -/
abbrev s_xis_situation : Stmt := top 37
def N_xis_situation : List Str := ["plant", "thing", "most"]
def m_xis_situation : MS := sSeq (sIf (mOrT (mNotT (mTr (mL (f2 (fIsi isT)) (aCons (mVar 1) (aCons (mC (.ty .tuple)) (aNil)))))) (mB (m2 fNe (mL (f1 fLen) (aCons (mVar 1) (aNil))) (mC (.int 2))))) (sRet (mC (.bl false))) (sNil)) (sRet (mAnd (mL F_xis_place_2 (aCons (mVar 0) (aCons (m2 fIxD (mVar 1) (mC (.int 0))) (aNil)))) (mL F_xis_row_3 (aCons (mVar 0) (aCons (m2 fIxD (mVar 1) (mC (.int 1))) (aCons (mVar 2) (aNil)))))))
theorem sc_xis_situation : FnScope N_xis_situation ["plant", "thing", "most"] (defScope s_xis_situation) := ⟨rfl, rfl, rfl, by decide +kernel, rfl, by decide +kernel, by decide +kernel⟩
set_option maxHeartbeats 4000000 in
theorem d_xis_situation (b : B g) : SB g N_xis_situation (dsc (defScope s_xis_situation)) 4 (defBody s_xis_situation) m_xis_situation :=
  sb_cons (ss_if (st_w (sw_or (st_not (st_tr (se_callB (o_isi b.isf) b.f_isinstance (by decide +kernel) (sa_cons (se_var 1) (sa_cons (se_ty .tuple b.f_tuple (by decide +kernel)) (sa_nil)))))) (sw_or1 (st_cmp o_ne (se_callB o_len b.f_len (by decide +kernel) (sa_cons (se_var 1) (sa_nil))) (se_int))))) (sb_one (ss_ret (se_bl))) (sb_nil)) (sb_one (ss_ret (se_and (se_call (fo_xis_place_2 b) (sa_cons (se_var 0) (sa_cons (se_ix o_ixD (se_var 1) (se_int)) (sa_nil)))) (se_one (se_call (fo_xis_row_3 b) (sa_cons (se_var 0) (sa_cons (se_ix o_ixD (se_var 1) (se_int)) (sa_cons (se_var 2) (sa_nil)))))))))
def F_xis_situation_3 : FD := fdD (runF 3 m_xis_situation) 3 []
theorem fa_xis_situation_3 (b : B g) : FA g 5 (df_xis_situation.ad g.K) F_xis_situation_3 := by
  obtain ⟨fd, F⟩ := b.q_xis_situation
  exact FA.of1 (ps := ["plant", "thing", "most"]) 3 1 F sc_xis_situation (d_xis_situation b) (by intro z; cases z) rfl (fun _ _ _ _ _ _ _ us its hu hi => match us, its, hu, hi with | [_, _, _], [_], _, _ => ⟨_, rfl, rfl⟩) (fun _ _ => RepL.nil)
theorem fo_xis_situation_3 (b : B g) : FO g 5 "is_situation" F_xis_situation_3 := ⟨⟨_, b.d_is_situation, fa_xis_situation_3 b⟩⟩
/-! need_situation -/
abbrev s_xneed_situation : Stmt := top 38
def N_xneed_situation : List Str := ["plant", "thing", "most"]
def m_xneed_situation : MS := sIf (mNotT (mTr (mL F_xis_situation_3 (aCons (mVar 0) (aCons (mVar 1) (aCons (mVar 2) (aNil))))))) (sRaise 30) (sNil)
theorem sc_xneed_situation : FnScope N_xneed_situation ["plant", "thing", "most"] (defScope s_xneed_situation) := ⟨rfl, rfl, rfl, by decide +kernel, rfl, by decide +kernel, by decide +kernel⟩
set_option maxHeartbeats 4000000 in
theorem d_xneed_situation (b : B g) : SB g N_xneed_situation (dsc (defScope s_xneed_situation)) 5 (defBody s_xneed_situation) m_xneed_situation :=
  sb_one (ss_if (st_not (st_tr (se_call (fo_xis_situation_3 b) (sa_cons (se_var 0) (sa_cons (se_var 1) (sa_cons (se_var 2) (sa_nil))))))) (sb_one (ss_raise b.x_NoSituation)) (sb_nil))
def F_xneed_situation_3 : FD := fdD (runF 3 m_xneed_situation) 3 []
theorem fa_xneed_situation_3 (b : B g) : FA g 6 (df_xneed_situation.ad g.K) F_xneed_situation_3 := by
  obtain ⟨fd, F⟩ := b.q_xneed_situation
  exact FA.of1 (ps := ["plant", "thing", "most"]) 3 1 F sc_xneed_situation (d_xneed_situation b) (by intro z; cases z) rfl (fun _ _ _ _ _ _ _ us its hu hi => match us, its, hu, hi with | [_, _, _], [_], _, _ => ⟨_, rfl, rfl⟩) (fun _ _ => RepL.nil)
theorem fo_xneed_situation_3 (b : B g) : FO g 6 "need_situation" F_xneed_situation_3 := ⟨⟨_, b.d_need_situation, fa_xneed_situation_3 b⟩⟩
/-! need_order -/
abbrev s_xneed_order : Stmt := top 27
def N_xneed_order : List Str := ["plant", "thing"]
def m_xneed_order : MS := sIf (mNotT (mTr (mL F_xis_order_2 (aCons (mVar 0) (aCons (mVar 1) (aNil)))))) (sRaise 25) (sNil)
theorem sc_xneed_order : FnScope N_xneed_order ["plant", "thing"] (defScope s_xneed_order) := ⟨rfl, rfl, rfl, by decide +kernel, rfl, by decide +kernel, by decide +kernel⟩
set_option maxHeartbeats 4000000 in
theorem d_xneed_order (b : B g) : SB g N_xneed_order (dsc (defScope s_xneed_order)) 3 (defBody s_xneed_order) m_xneed_order :=
  sb_one (ss_if (st_not (st_tr (se_call (fo_xis_order_2 b) (sa_cons (se_var 0) (sa_cons (se_var 1) (sa_nil)))))) (sb_one (ss_raise b.x_NoOrder)) (sb_nil))
def F_xneed_order_2 : FD := fdD (frD (runF 2 m_xneed_order)) 2 []
theorem fa_xneed_order_2 (b : B g) : FA g 4 (df_xneed_order.ad g.K) F_xneed_order_2 := by
  obtain ⟨fd, F⟩ := b.q_xneed_order
  exact FA.of0F (ps := ["plant", "thing"]) F sc_xneed_order (d_xneed_order b) fun _ _ _ _ _ _ us hl => match us, hl with | [_, _], _ => rfl
theorem fo_xneed_order_2 (b : B g) : FO g 4 "need_order" F_xneed_order_2 := ⟨⟨_, b.d_need_order, fa_xneed_order_2 b⟩⟩
/-! Plant.moves -/
abbrev s_xPlantDmoves : Stmt := inClass (top 31) 1
def N_xPlantDmoves : List Str := ["self"]
def m_xPlantDmoves : MS := sRet (m1 (fFld .rows) (mVar 0))
theorem sc_xPlantDmoves : FnScope N_xPlantDmoves ["self"] (defScope s_xPlantDmoves) := ⟨rfl, rfl, rfl, by decide +kernel, rfl, by decide +kernel, by decide +kernel⟩
set_option maxHeartbeats 4000000 in
theorem d_xPlantDmoves (b : B g) : SB g N_xPlantDmoves (dsc (defScope s_xPlantDmoves)) 0 (defBody s_xPlantDmoves) m_xPlantDmoves :=
  sb_one (ss_ret (se_fld b.cf .rows (se_var 0)))
def F_xPlantDmoves_1 : FD := fdD (runF 1 m_xPlantDmoves) 1 []
theorem fa_xPlantDmoves_1 (b : B g) : FA g 1 (df_xPlantDmoves.ad g.K) F_xPlantDmoves_1 := by
  obtain ⟨fd, F⟩ := b.q_xPlantDmoves
  exact FA.of0 (ps := ["self"]) F sc_xPlantDmoves (d_xPlantDmoves b) fun _ _ _ _ _ _ us hl => match us, hl with | [_], _ => rfl
def P_moves : TBL := [(0, F_xPlantDmoves_1)]
theorem p_P_moves (b : B g) : PA1 g 1 "moves" (TBL.f P_moves) := PA1.cons (by decide) b.k_Plant b.p_Plant_moves ((fa_xPlantDmoves_1 b).up (by decide)) (PA1.nil)
/-! led -/
abbrev s_xled : Stmt := top 34
def N_xled : List Str := ["plant", "places", "order", "place", "answer"]
def m_xled : MS := sRet (mL (f1 fTupOf) (aCons (m1 fSortSet (mComp2 (iAny (mVar 1)) (gN 3) (tYesM) (iAny (m2 fIxD (m2 fIxD (mProp (TBL.f P_moves) (mVar 0)) (mVar 3)) (mVar 2))) (gN 4) (tYesM) (mVar 4) [3, 4] [4])) (aNil)))
theorem sc_xled : FnScope N_xled ["plant", "places", "order"] (defScope s_xled) := ⟨rfl, rfl, rfl, by decide +kernel, rfl, by decide +kernel, by decide +kernel⟩
set_option maxHeartbeats 4000000 in
theorem d_xled (b : B g) : SB g N_xled (dsc (defScope s_xled)) 2 (defBody s_xled) m_xled :=
  sb_one (ss_ret (se_callTy o_tupOf b.f_tuple (by decide +kernel) (sa_cons (se_sortSet (se_comp2 [("place", 3), ("answer", 4)] (si_any (se_var 1)) (sg_wide (sg_name 3) (by decide)) (sts_nil) (si_any (se_ix o_ixD (se_ix o_ixD (se_prop b.cf (p_P_moves b) (se_var 0)) (se_var 3)) (se_var 2))) (sg_name 4) (sts_nil) (se_var 4)) b.f_sorted b.f_set) (sa_nil))))
def F_xled_3 : FD := fdD (frD (runF 5 m_xled)) 3 []
theorem fa_xled_3 (b : B g) : FA g 3 (df_xled.ad g.K) F_xled_3 := by
  obtain ⟨fd, F⟩ := b.q_xled
  exact FA.of0F (ps := ["plant", "places", "order"]) F sc_xled (d_xled b) fun _ _ _ _ _ _ us hl => match us, hl with | [_, _, _], _ => rfl
theorem fo_xled_3 (b : B g) : FO g 3 "led" F_xled_3 := ⟨⟨_, b.d_led, fa_xled_3 b⟩⟩
/-! after -/
abbrev s_xafter : Stmt := top 35
def N_xafter : List Str := ["plant", "places", "row", "order"]
def m_xafter : MS := sSeq (sFor (iAny (mVar 2)) (gN 3) (sSet 1 (mL F_xled_3 (aCons (mVar 0) (aCons (mVar 1) (aCons (mVar 3) (aNil))))))) (sRet (mVar 1))
theorem sc_xafter : FnScope N_xafter ["plant", "places", "row"] (defScope s_xafter) := ⟨rfl, rfl, rfl, by decide +kernel, rfl, by decide +kernel, by decide +kernel⟩
set_option maxHeartbeats 4000000 in
theorem d_xafter (b : B g) : SB g N_xafter (dsc (defScope s_xafter)) 3 (defBody s_xafter) m_xafter :=
  sb_cons (ss_for (si_any (se_var 2)) (sg_name 3) (sb_one (ss_set 1 (se_call (fo_xled_3 b) (sa_cons (se_var 0) (sa_cons (se_var 1) (sa_cons (se_var 3) (sa_nil)))))))) (sb_one (ss_ret (se_var 1)))
def F_xafter_3 : FD := fdD (frD (runF 4 m_xafter)) 3 []
theorem fa_xafter_3 (b : B g) : FA g 4 (df_xafter.ad g.K) F_xafter_3 := by
  obtain ⟨fd, F⟩ := b.q_xafter
  exact FA.of0F (ps := ["plant", "places", "row"]) F sc_xafter (d_xafter b) fun _ _ _ _ _ _ us hl => match us, hl with | [_, _, _], _ => rfl
theorem fo_xafter_3 (b : B g) : FO g 4 "after" F_xafter_3 := ⟨⟨_, b.d_after, fa_xafter_3 b⟩⟩
/-! due_in -/
abbrev s_xdue_in : Stmt := top 42
def N_xdue_in : List Str := ["news", "plant", "situation", "place", "row", "cut"]
def m_xdue_in : MS := sSeq (sAsg (mVar 2) (gTn 2 (gCons (gN 3) (gCons (gN 4) (gNil))))) (sSeq (sSet 5 (m2 fSub (mL (f1 fLen) (aCons (mVar 4) (aNil))) (mProp (TBL.f P_late) (mVar 0)))) (sSeq (sIf (mB (m2 fLt (mVar 5) (mC (.int 1)))) (sRet (mTup (aCons (mTup (aNil)) (aCons (mVar 4) (aNil))))) (sNil)) (sRet (mTup (aCons (mL F_xafter_3 (aCons (mVar 1) (aCons (mTup (aCons (mVar 3) (aNil))) (aCons (mSl (mVar 4) (oNone) (oSome (mVar 5))) (aNil))))) (aCons (mSl (mVar 4) (oSome (mVar 5)) (oNone)) (aNil)))))))
theorem sc_xdue_in : FnScope N_xdue_in ["news", "plant", "situation"] (defScope s_xdue_in) := ⟨rfl, rfl, rfl, by decide +kernel, rfl, by decide +kernel, by decide +kernel⟩
set_option maxHeartbeats 4000000 in
theorem d_xdue_in (b : B g) : SB g N_xdue_in (dsc (defScope s_xdue_in)) 4 (defBody s_xdue_in) m_xdue_in :=
  sb_cons (ss_asg (se_var 2) (sg_tup (n := 2) (sgs_cons (sg_name 3) (sgs_cons (sg_name 4) (sgs_nil))))) (sb_cons (ss_set 5 (se_op o_sub (se_callB o_len b.f_len (by decide +kernel) (sa_cons (se_var 4) (sa_nil))) (se_prop b.cf (p_P_late b) (se_var 0)))) (sb_cons (ss_if (st_cmp o_lt (se_var 5) (se_int)) (sb_one (ss_ret (se_tup (sa_cons (se_tup (sa_nil)) (sa_cons (se_var 4) (sa_nil)))))) (sb_nil)) (sb_one (ss_ret (se_tup (sa_cons (se_call (fo_xafter_3 b) (sa_cons (se_var 1) (sa_cons (se_tup (sa_cons (se_var 3) (sa_nil))) (sa_cons (se_sl (se_var 4) (so_none) (so_some (se_var 5))) (sa_nil))))) (sa_cons (se_sl (se_var 4) (so_some (se_var 5)) (so_none)) (sa_nil))))))))
def F_xdue_in_3 : FD := fdD (frD (runF 6 m_xdue_in)) 3 []
theorem fa_xdue_in_3 (b : B g) : FA g 5 (df_xdue_in.ad g.K) F_xdue_in_3 := by
  obtain ⟨fd, F⟩ := b.q_xdue_in
  exact FA.of0F (ps := ["news", "plant", "situation"]) F sc_xdue_in (d_xdue_in b) fun _ _ _ _ _ _ us hl => match us, hl with | [_, _, _], _ => rfl
theorem fo_xdue_in_3 (b : B g) : FO g 5 "due_in" F_xdue_in_3 := ⟨⟨_, b.d_due_in, fa_xdue_in_3 b⟩⟩
/-! next_in -/
abbrev s_xnext_in : Stmt := top 43
def N_xnext_in : List Str := ["news", "plant", "situation", "order", "place", "row", "longer", "heard", "last", "found", "one"]
def m_xnext_in : MS := sSeq (sAsg (mVar 2) (gTn 2 (gCons (gN 4) (gCons (gN 5) (gNil))))) (sSeq (sSet 6 (mTup (aStar (mVar 5) (aCons (mVar 3) (aNil))))) (sSeq (sAsg (mL F_xdue_in_3 (aCons (mVar 0) (aCons (mVar 1) (aCons (mTup (aCons (mVar 4) (aCons (mVar 6) (aNil)))) (aNil))))) (gTn 2 (gCons (gN 7) (gCons (gN 8) (gNil))))) (sSeq (sIf (mB (m2 fEq (mVar 7) (mTup (aNil)))) (sRet (mTup (aCons (mTup (aCons (mVar 4) (aCons (mVar 6) (aNil)))) (aNil)))) (sNil)) (sSeq (sSet 9 (mCompN (iAny (mVar 7)) (gN 10) (tYesM) (mTup (aCons (mVar 10) (aCons (mVar 8) (aNil)))) [10])) (sSeq (sIf (mB (m2 fLe (mL (f1 fLen) (aCons (mVar 6) (aNil))) (m2 fAddG (mProp (TBL.f P_late) (mVar 0)) (mProp (TBL.f P_lost) (mVar 0))))) (sExpr (mBM isListD fApp (mVar 9) (aCons (mTup (aCons (mVar 4) (aCons (mVar 6) (aNil)))) (aNil)))) (sNil)) (sRet (mL (f1 fTupOf) (aCons (mL fSortA (aCons (mVar 9) (aNil))) (aNil)))))))))
theorem sc_xnext_in : FnScope N_xnext_in ["news", "plant", "situation", "order"] (defScope s_xnext_in) := ⟨rfl, rfl, rfl, by decide +kernel, rfl, by decide +kernel, by decide +kernel⟩
set_option maxHeartbeats 4000000 in
theorem d_xnext_in (b : B g) : SB g N_xnext_in (dsc (defScope s_xnext_in)) 5 (defBody s_xnext_in) m_xnext_in :=
  sb_cons (ss_asg (se_var 2) (sg_tup (n := 2) (sgs_cons (sg_name 4) (sgs_cons (sg_name 5) (sgs_nil))))) (sb_cons (ss_set 6 (se_tup (sa_star (se_var 5) (sa_cons (se_var 3) (sa_nil))))) (sb_cons (ss_asg (se_call (fo_xdue_in_3 b) (sa_cons (se_var 0) (sa_cons (se_var 1) (sa_cons (se_tup (sa_cons (se_var 4) (sa_cons (se_var 6) (sa_nil)))) (sa_nil))))) (sg_tup (n := 2) (sgs_cons (sg_name 7) (sgs_cons (sg_name 8) (sgs_nil))))) (sb_cons (ss_if (st_cmp o_eq (se_var 7) (se_tup (sa_nil))) (sb_one (ss_ret (se_tup (sa_cons (se_tup (sa_cons (se_var 4) (sa_cons (se_var 6) (sa_nil)))) (sa_nil))))) (sb_nil)) (sb_cons (ss_compN 9 [("one", 10)] (si_any (se_var 7)) (sg_name 10) (sts_nil) (se_tup (sa_cons (se_var 10) (sa_cons (se_var 8) (sa_nil)))) (by (intro env he; exact L2.sw_true (by rw [he]; rfl) (by rw [he]; rfl) rfl (by decide +kernel)))) (sb_cons (ss_if (st_cmp o_le (se_callB o_len b.f_len (by decide +kernel) (sa_cons (se_var 6) (sa_nil))) (se_op o_addG (se_prop b.cf (p_P_late b) (se_var 0)) (se_prop b.cf (p_P_lost b) (se_var 0)))) (sb_one (ss_expr (se_bm PySem.F.plainAttrs_list PySem.F.slot_list_append PySem.F.type_list_append okT_list t_app (se_var 9) (sa_cons (se_tup (sa_cons (se_var 4) (sa_cons (se_var 6) (sa_nil)))) (sa_nil))))) (sb_nil)) (sb_one (ss_ret (se_callTy o_tupOf b.f_tuple (by decide +kernel) (sa_cons (se_callB o_sortA b.f_sorted (by decide +kernel) (sa_cons (se_var 9) (sa_nil))) (sa_nil))))))))))
def F_xnext_in_4 : FD := fdD (frD (runF 11 m_xnext_in)) 4 []
theorem fa_xnext_in_4 (b : B g) : FA g 6 (df_xnext_in.ad g.K) F_xnext_in_4 := by
  obtain ⟨fd, F⟩ := b.q_xnext_in
  exact FA.of0F (ps := ["news", "plant", "situation", "order"]) F sc_xnext_in (d_xnext_in b) fun _ _ _ _ _ _ us hl => match us, hl with | [_, _, _, _], _ => rfl
theorem fo_xnext_in_4 (b : B g) : FO g 6 "next_in" F_xnext_in_4 := ⟨⟨_, b.d_next_in, fa_xnext_in_4 b⟩⟩
/-! News.__call__ -/
abbrev s_xNewsDUcallU : Stmt := inClass (top 45) 2
def N_xNewsDUcallU : List Str := ["self", "plant", "situation", "order"]
def m_xNewsDUcallU : MS := sSeq (sExpr (mL F_xneed_plant_1 (aCons (mVar 1) (aNil)))) (sSeq (sExpr (mL F_xneed_situation_3 (aCons (mVar 1) (aCons (mVar 2) (aCons (m2 fAddG (mProp (TBL.f P_late) (mVar 0)) (mProp (TBL.f P_lost) (mVar 0))) (aNil)))))) (sSeq (sExpr (mL F_xneed_order_2 (aCons (mVar 1) (aCons (mVar 3) (aNil))))) (sRet (mL F_xnext_in_4 (aCons (mVar 0) (aCons (mVar 1) (aCons (mVar 2) (aCons (mVar 3) (aNil)))))))))
theorem sc_xNewsDUcallU : FnScope N_xNewsDUcallU ["self", "plant", "situation", "order"] (defScope s_xNewsDUcallU) := ⟨rfl, rfl, rfl, by decide +kernel, rfl, by decide +kernel, by decide +kernel⟩
set_option maxHeartbeats 4000000 in
theorem d_xNewsDUcallU (b : B g) : SB g N_xNewsDUcallU (dsc (defScope s_xNewsDUcallU)) 6 (defBody s_xNewsDUcallU) m_xNewsDUcallU :=
  sb_cons (ss_expr (se_call (fo_xneed_plant_1 b) (sa_cons (se_var 1) (sa_nil)))) (sb_cons (ss_expr (se_call (fo_xneed_situation_3 b) (sa_cons (se_var 1) (sa_cons (se_var 2) (sa_cons (se_op o_addG (se_prop b.cf (p_P_late b) (se_var 0)) (se_prop b.cf (p_P_lost b) (se_var 0))) (sa_nil)))))) (sb_cons (ss_expr (se_call (fo_xneed_order_2 b) (sa_cons (se_var 1) (sa_cons (se_var 3) (sa_nil))))) (sb_one (ss_ret (se_call (fo_xnext_in_4 b) (sa_cons (se_var 0) (sa_cons (se_var 1) (sa_cons (se_var 2) (sa_cons (se_var 3) (sa_nil))))))))))
def F_xNewsDUcallU_4 : FD := fdD (runF 4 m_xNewsDUcallU) 4 []
theorem fa_xNewsDUcallU_4 (b : B g) : FA g 7 (df_xNewsDUcallU.ad g.K) F_xNewsDUcallU_4 := by
  obtain ⟨fd, F⟩ := b.q_xNewsDUcallU
  exact FA.of0 (ps := ["self", "plant", "situation", "order"]) F sc_xNewsDUcallU (d_xNewsDUcallU b) fun _ _ _ _ _ _ us hl => match us, hl with | [_, _, _, _], _ => rfl
def T_call_4 : TBL := [(1, F_xNewsDUcallU_4), (2, F_xNewsDUcallU_4), (3, F_xNewsDUcallU_4), (4, F_xNewsDUcallU_4)]
theorem p_T_call_4 (b : B g) : CO g 7 (TBL.f T_call_4) := CO.cons b.k_News b.u_News___call__.1 b.u_News___call__.2 (fnIn_q b.q_xNewsDUcallU) ((fa_xNewsDUcallU_4 b).up (by decide)) (CO.cons b.k_Late b.u_Late___call__.1 b.u_Late___call__.2 (fnIn_q b.q_xNewsDUcallU) ((fa_xNewsDUcallU_4 b).up (by decide)) (CO.cons b.k_Lost b.u_Lost___call__.1 b.u_Lost___call__.2 (fnIn_q b.q_xNewsDUcallU) ((fa_xNewsDUcallU_4 b).up (by decide)) (CO.cons b.k_LateLost b.u_LateLost___call__.1 b.u_LateLost___call__.2 (fnIn_q b.q_xNewsDUcallU) ((fa_xNewsDUcallU_4 b).up (by decide)) (CO.nil))))
/-! Plant.goal -/
abbrev s_xPlantDgoal : Stmt := inClass (top 31) 3
def N_xPlantDgoal : List Str := ["self"]
def m_xPlantDgoal : MS := sRet (m2 fIxD (m1 (fFld .marks) (mVar 0)) (mC (.int 1)))
theorem sc_xPlantDgoal : FnScope N_xPlantDgoal ["self"] (defScope s_xPlantDgoal) := ⟨rfl, rfl, rfl, by decide +kernel, rfl, by decide +kernel, by decide +kernel⟩
set_option maxHeartbeats 4000000 in
theorem d_xPlantDgoal (b : B g) : SB g N_xPlantDgoal (dsc (defScope s_xPlantDgoal)) 0 (defBody s_xPlantDgoal) m_xPlantDgoal :=
  sb_one (ss_ret (se_ix o_ixD (se_fld b.cf .marks (se_var 0)) (se_int)))
def F_xPlantDgoal_1 : FD := fdD (runF 1 m_xPlantDgoal) 1 []
theorem fa_xPlantDgoal_1 (b : B g) : FA g 1 (df_xPlantDgoal.ad g.K) F_xPlantDgoal_1 := by
  obtain ⟨fd, F⟩ := b.q_xPlantDgoal
  exact FA.of0 (ps := ["self"]) F sc_xPlantDgoal (d_xPlantDgoal b) fun _ _ _ _ _ _ us hl => match us, hl with | [_], _ => rfl
def P_goal : TBL := [(0, F_xPlantDgoal_1)]
theorem p_P_goal (b : B g) : PA1 g 1 "goal" (TBL.f P_goal) := PA1.cons (by decide) b.k_Plant b.p_Plant_goal ((fa_xPlantDgoal_1 b).up (by decide)) (PA1.nil)
/-! Plant.bad -/
abbrev s_xPlantDbad : Stmt := inClass (top 31) 2
def N_xPlantDbad : List Str := ["self"]
def m_xPlantDbad : MS := sRet (m2 fIxD (m1 (fFld .marks) (mVar 0)) (mC (.int 0)))
theorem sc_xPlantDbad : FnScope N_xPlantDbad ["self"] (defScope s_xPlantDbad) := ⟨rfl, rfl, rfl, by decide +kernel, rfl, by decide +kernel, by decide +kernel⟩
set_option maxHeartbeats 4000000 in
theorem d_xPlantDbad (b : B g) : SB g N_xPlantDbad (dsc (defScope s_xPlantDbad)) 0 (defBody s_xPlantDbad) m_xPlantDbad :=
  sb_one (ss_ret (se_ix o_ixD (se_fld b.cf .marks (se_var 0)) (se_int)))
def F_xPlantDbad_1 : FD := fdD (runF 1 m_xPlantDbad) 1 []
theorem fa_xPlantDbad_1 (b : B g) : FA g 1 (df_xPlantDbad.ad g.K) F_xPlantDbad_1 := by
  obtain ⟨fd, F⟩ := b.q_xPlantDbad
  exact FA.of0 (ps := ["self"]) F sc_xPlantDbad (d_xPlantDbad b) fun _ _ _ _ _ _ us hl => match us, hl with | [_], _ => rfl
def P_bad : TBL := [(0, F_xPlantDbad_1)]
theorem p_P_bad (b : B g) : PA1 g 1 "bad" (TBL.f P_bad) := PA1.cons (by decide) b.k_Plant b.p_Plant_bad ((fa_xPlantDbad_1 b).up (by decide)) (PA1.nil)
/-! _law_right -/
abbrev s_x_law_right : Stmt := top 67
def N_x_law_right : List Str := ["_law_pen_here", "_law_parts_here", "_law_made_here", "_law_ways", "_law_late", "_law_lost", "_law_heard", "_law_kept", "_law_lap", "_law_situation", "_law_way", "_law_due"]
def m_x_law_right : MS := sSeq (sPar [2, 3] (aCons (mL F_x_law_made_1 (aCons (mVar 1) (aNil))) (aCons (mL (f1 fLen) (aCons (m2 fIxD (m2 fIxD (mVar 1) (mC (.int 0))) (mC (.int 0))) (aNil))) (aNil)))) (sSeq (sAsg (mL F_x_law_numbers_2 (aCons (mVar 0) (aCons (mC (.int 4)) (aNil)))) (gTn 2 (gCons (gN 4) (gCons (gN 5) (gNil))))) (sSeq (sSet 6 (mL F_x_law_news_3 (aCons (mVar 4) (aCons (mVar 5) (aCons (mL F_x_law_draw_2 (aCons (mVar 0) (aCons (mC (.int 2)) (aNil)))) (aNil)))))) (sSeq (sSet 7 (mL (f1 (fReprI (TBL.f T_repr))) (aCons (mVar 6) (aNil)))) (sSeq (sFor (iRange1 (mC (.int 6))) (gN 8) (sSeq (sSet 9 (mTup (aCons (mL F_x_law_draw_2 (aCons (mVar 0) (aCons (mL (f1 fLen) (aCons (m2 fIxD (mVar 1) (mC (.int 0))) (aNil))) (aNil)))) (aCons (mL F_x_law_row_3 (aCons (mVar 0) (aCons (mVar 3) (aCons (m2 fAddG (mVar 4) (mVar 5)) (aNil))))) (aNil))))) (sFor (iRange1 (mVar 3)) (gN 10) (sSeq (sSet 11 (mL (f1 fTupOf) (aCons (mL F_x_law_next_5 (aCons (m2 fIxD (mVar 1) (mC (.int 0))) (aCons (mVar 4) (aCons (mVar 5) (aCons (mVar 9) (aCons (mVar 10) (aNil))))))) (aNil)))) (sIf (mNotT (mTr (mL F_x_law_same_2 (aCons (mLst (aCons (mCallO (TBL.f T_call_4) (mVar 6) (aCons (mVar 2) (aCons (mVar 9) (aCons (mVar 10) (aNil))))) (aCons (mCallO (TBL.f T_call_4) (mVar 6) (aCons (mVar 2) (aCons (mVar 9) (aCons (mVar 10) (aNil))))) (aNil)))) (aCons (mLst (aCons (mVar 11) (aCons (mVar 11) (aNil)))) (aNil)))))) (sRet (mC (.bl false))) (sNil)))))) (sRet (mAnd (m2 fEq (mL (f1 (fReprI (TBL.f T_repr))) (aCons (mVar 6) (aNil))) (mVar 7)) (mL F_x_law_same_2 (aCons (mTup (aCons (mProp (TBL.f P_moves) (mVar 2)) (aCons (mProp (TBL.f P_bad) (mVar 2)) (aCons (mProp (TBL.f P_goal) (mVar 2)) (aNil))))) (aCons (mVar 1) (aNil))))))))))
theorem sc_x_law_right : FnScope N_x_law_right ["_law_pen_here", "_law_parts_here"] (defScope s_x_law_right) := ⟨rfl, rfl, rfl, by decide +kernel, rfl, by decide +kernel, by decide +kernel⟩
set_option maxHeartbeats 4000000 in
theorem d_x_law_right (b : B g) : SB g N_x_law_right (dsc (defScope s_x_law_right)) 7 (defBody s_x_law_right) m_x_law_right :=
  sb_cons (ss_par2 2 3 (sa_cons (se_call (fo_x_law_made_1 b) (sa_cons (se_var 1) (sa_nil))) (sa_cons (se_callB o_len b.f_len (by decide +kernel) (sa_cons (se_ix o_ixD (se_ix o_ixD (se_var 1) (se_int)) (se_int)) (sa_nil))) (sa_nil))) (hw := by (intro env he; cases env; (simp only at he); subst he; rfl))) (sb_cons (ss_asg (se_call (fo_x_law_numbers_2 b) (sa_cons (se_var 0) (sa_cons (se_int) (sa_nil)))) (sg_tup (n := 2) (sgs_cons (sg_name 4) (sgs_cons (sg_name 5) (sgs_nil))))) (sb_cons (ss_set 6 (se_call (fo_x_law_news_3 b) (sa_cons (se_var 4) (sa_cons (se_var 5) (sa_cons (se_call (fo_x_law_draw_2 b) (sa_cons (se_var 0) (sa_cons (se_int) (sa_nil)))) (sa_nil)))))) (sb_cons (ss_set 7 (se_callB (o_reprI (p_T_repr b)) b.f_repr (by decide +kernel) (sa_cons (se_var 6) (sa_nil)))) (sb_cons (ss_for (si_range1 (se_int) b.f_range) (sg_name 8) (sb_cons (ss_set 9 (se_tup (sa_cons (se_call (fo_x_law_draw_2 b) (sa_cons (se_var 0) (sa_cons (se_callB o_len b.f_len (by decide +kernel) (sa_cons (se_ix o_ixD (se_var 1) (se_int)) (sa_nil))) (sa_nil)))) (sa_cons (se_call (fo_x_law_row_3 b) (sa_cons (se_var 0) (sa_cons (se_var 3) (sa_cons (se_op o_addG (se_var 4) (se_var 5)) (sa_nil))))) (sa_nil))))) (sb_one (ss_for (si_range1 (se_var 3) b.f_range) (sg_name 10) (sb_cons (ss_set 11 (se_callTy o_tupOf b.f_tuple (by decide +kernel) (sa_cons (se_call (fo_x_law_next_5 b) (sa_cons (se_ix o_ixD (se_var 1) (se_int)) (sa_cons (se_var 4) (sa_cons (se_var 5) (sa_cons (se_var 9) (sa_cons (se_var 10) (sa_nil))))))) (sa_nil)))) (sb_one (ss_if (st_not (st_tr (se_call (fo_x_law_same_2 b) (sa_cons (se_lst (sa_cons (se_callO (p_T_call_4 b) (se_var 6) (sa_cons (se_var 2) (sa_cons (se_var 9) (sa_cons (se_var 10) (sa_nil))))) (sa_cons (se_callO (p_T_call_4 b) (se_var 6) (sa_cons (se_var 2) (sa_cons (se_var 9) (sa_cons (se_var 10) (sa_nil))))) (sa_nil)))) (sa_cons (se_lst (sa_cons (se_var 11) (sa_cons (se_var 11) (sa_nil)))) (sa_nil)))))) (sb_one (ss_ret (se_bl))) (sb_nil)))))))) (sb_one (ss_ret (se_and (se_cmp o_eq (se_callB (o_reprI (p_T_repr b)) b.f_repr (by decide +kernel) (sa_cons (se_var 6) (sa_nil))) (se_var 7)) (se_one (se_call (fo_x_law_same_2 b) (sa_cons (se_tup (sa_cons (se_prop b.cf (p_P_moves b) (se_var 2)) (sa_cons (se_prop b.cf (p_P_bad b) (se_var 2)) (sa_cons (se_prop b.cf (p_P_goal b) (se_var 2)) (sa_nil))))) (sa_cons (se_var 1) (sa_nil))))))))))))
def F_x_law_right_2 : FD := fdD (runF 12 m_x_law_right) 2 []
theorem fa_x_law_right_2 (b : B g) : FA g 8 (df_x_law_right.ad g.K) F_x_law_right_2 := by
  obtain ⟨fd, F⟩ := b.q_x_law_right
  exact FA.of0 (ps := ["_law_pen_here", "_law_parts_here"]) F sc_x_law_right (d_x_law_right b) fun _ _ _ _ _ _ us hl => match us, hl with | [_, _], _ => rfl
theorem fo_x_law_right_2 (b : B g) : FO g 8 "_law_right" F_x_law_right_2 := ⟨⟨_, b.d__law_right, fa_x_law_right_2 b⟩⟩
/-! _law_answers -/
abbrev s_x_law_answers : Stmt := top 56
def N_x_law_answers : List Str := ["_law_pen_here", "_law_wide", "_law_many", "_law_turn"]
def m_x_law_answers : MS := sSeq (sSet 2 (m2 fIxD (mLst (aCons (mC (.int 1)) (aCons (mC (.int 1)) (aCons (mC (.int 2)) (aCons (mC (.int 2)) (aCons (mC (.int 1)) (aCons (mC (.int 3)) (aNil)))))))) (mL F_x_law_draw_2 (aCons (mVar 0) (aCons (mC (.int 6)) (aNil)))))) (sRet (mL (f1 fTupOf) (aCons (m1 fSortSet (mComp (iRange1 (mVar 2)) (gN 3) (tYesM) (mL F_x_law_draw_2 (aCons (mVar 0) (aCons (mVar 1) (aNil)))) [3])) (aNil))))
theorem sc_x_law_answers : FnScope N_x_law_answers ["_law_pen_here", "_law_wide"] (defScope s_x_law_answers) := ⟨rfl, rfl, rfl, by decide +kernel, rfl, by decide +kernel, by decide +kernel⟩
set_option maxHeartbeats 4000000 in
theorem d_x_law_answers (b : B g) : SB g N_x_law_answers (dsc (defScope s_x_law_answers)) 1 (defBody s_x_law_answers) m_x_law_answers :=
  sb_cons (ss_set 2 (se_ix o_ixD (se_lst (sa_cons (se_int) (sa_cons (se_int) (sa_cons (se_int) (sa_cons (se_int) (sa_cons (se_int) (sa_cons (se_int) (sa_nil)))))))) (se_call (fo_x_law_draw_2 b) (sa_cons (se_var 0) (sa_cons (se_int) (sa_nil)))))) (sb_one (ss_ret (se_callTy o_tupOf b.f_tuple (by decide +kernel) (sa_cons (se_sortSet (se_comp [("_law_turn", 3)] (si_range1 (se_var 2) b.f_range) (sg_name 3) (sts_nil) (se_call (fo_x_law_draw_2 b) (sa_cons (se_var 0) (sa_cons (se_var 1) (sa_nil))))) b.f_sorted b.f_set) (sa_nil)))))
def F_x_law_answers_2 : FD := fdD (runF 4 m_x_law_answers) 2 []
theorem fa_x_law_answers_2 (b : B g) : FA g 2 (df_x_law_answers.ad g.K) F_x_law_answers_2 := by
  obtain ⟨fd, F⟩ := b.q_x_law_answers
  exact FA.of0 (ps := ["_law_pen_here", "_law_wide"]) F sc_x_law_answers (d_x_law_answers b) fun _ _ _ _ _ _ us hl => match us, hl with | [_, _], _ => rfl
theorem fo_x_law_answers_2 (b : B g) : FO g 2 "_law_answers" F_x_law_answers_2 := ⟨⟨_, b.d__law_answers, fa_x_law_answers_2 b⟩⟩
/-! _law_moves -/
abbrev s_x_law_moves : Stmt := top 57
def N_x_law_moves : List Str := ["_law_pen_here", "_law_most", "_law_wide", "_law_ways", "_law_spot", "_law_way"]
def m_x_law_moves : MS := sSeq (sAsg (mTup (aCons (m2 fIxD (mLst (aCons (mVar 1) (aCons (m2 fAddG (mC (.int 1)) (mL F_x_law_draw_2 (aCons (mVar 0) (aCons (mVar 1) (aNil))))) (aNil)))) (mL F_x_law_draw_2 (aCons (mVar 0) (aCons (mC (.int 2)) (aNil))))) (aCons (m2 fIxD (mLst (aCons (mC (.int 2)) (aCons (mC (.int 2)) (aCons (mC (.int 1)) (aCons (mC (.int 3)) (aCons (mC (.int 2)) (aCons (mC (.int 3)) (aNil)))))))) (mL F_x_law_draw_2 (aCons (mVar 0) (aCons (mC (.int 6)) (aNil))))) (aNil)))) (gTn 2 (gCons (gN 2) (gCons (gN 3) (gNil))))) (sRet (mL (f1 fTupOf) (aCons (mComp (iRange1 (mVar 2)) (gN 4) (tYesM) (mL (f1 fTupOf) (aCons (mComp (iRange1 (mVar 3)) (gN 5) (tYesM) (mL F_x_law_answers_2 (aCons (mVar 0) (aCons (mVar 2) (aNil)))) [5]) (aNil))) [4]) (aNil))))
theorem sc_x_law_moves : FnScope N_x_law_moves ["_law_pen_here", "_law_most"] (defScope s_x_law_moves) := ⟨rfl, rfl, rfl, by decide +kernel, rfl, by decide +kernel, by decide +kernel⟩
set_option maxHeartbeats 4000000 in
theorem d_x_law_moves (b : B g) : SB g N_x_law_moves (dsc (defScope s_x_law_moves)) 2 (defBody s_x_law_moves) m_x_law_moves :=
  sb_cons (ss_asgS (se_tup (sa_cons (se_ix o_ixD (se_lst (sa_cons (se_var 1) (sa_cons (se_op o_addG (se_int) (se_call (fo_x_law_draw_2 b) (sa_cons (se_var 0) (sa_cons (se_var 1) (sa_nil))))) (sa_nil)))) (se_call (fo_x_law_draw_2 b) (sa_cons (se_var 0) (sa_cons (se_int) (sa_nil))))) (sa_cons (se_ix o_ixD (se_lst (sa_cons (se_int) (sa_cons (se_int) (sa_cons (se_int) (sa_cons (se_int) (sa_cons (se_int) (sa_cons (se_int) (sa_nil)))))))) (se_call (fo_x_law_draw_2 b) (sa_cons (se_var 0) (sa_cons (se_int) (sa_nil))))) (sa_nil)))) (sg_tup (n := 2) (sgs_cons (sg_name 2) (sgs_cons (sg_name 3) (sgs_nil)))) (by (intro env he; cases env; (simp only at he); subst he; rfl))) (sb_one (ss_ret (se_callTy o_tupOf b.f_tuple (by decide +kernel) (sa_cons (se_comp [("_law_spot", 4)] (si_range1 (se_var 2) b.f_range) (sg_name 4) (sts_nil) (se_callTy o_tupOf b.f_tuple (by decide +kernel) (sa_cons (se_comp [("_law_way", 5)] (si_range1 (se_var 3) b.f_range) (sg_name 5) (sts_nil) (se_call (fo_x_law_answers_2 b) (sa_cons (se_var 0) (sa_cons (se_var 2) (sa_nil))))) (sa_nil)))) (sa_nil)))))
def F_x_law_moves_2 : FD := fdD (runF 6 m_x_law_moves) 2 []
theorem fa_x_law_moves_2 (b : B g) : FA g 3 (df_x_law_moves.ad g.K) F_x_law_moves_2 := by
  obtain ⟨fd, F⟩ := b.q_x_law_moves
  exact FA.of0 (ps := ["_law_pen_here", "_law_most"]) F sc_x_law_moves (d_x_law_moves b) fun _ _ _ _ _ _ us hl => match us, hl with | [_, _], _ => rfl
theorem fo_x_law_moves_2 (b : B g) : FO g 3 "_law_moves" F_x_law_moves_2 := ⟨⟨_, b.d__law_moves, fa_x_law_moves_2 b⟩⟩
/-! _law_marks -/
abbrev s_x_law_marks : Stmt := top 58
def N_x_law_marks : List Str := ["_law_pen_here", "_law_wide", "_law_sorts", "_law_spot", "_law_at"]
def m_x_law_marks : MS := sSeq (sSet 2 (mComp (iRange1 (mVar 1)) (gN 3) (tYesM) (mL F_x_law_draw_2 (aCons (mVar 0) (aCons (mC (.int 6)) (aNil)))) [3])) (sRet (mTup (aCons (mL (f1 fTupOf) (aCons (mComp (iRange1 (mVar 1)) (gN 4) (mB (m2 fEq (m2 fIxD (mVar 2) (mVar 4)) (mC (.int 0)))) (mVar 4) [4]) (aNil))) (aCons (mL (f1 fTupOf) (aCons (mComp (iRange1 (mVar 1)) (gN 4) (mB (m2 fEq (m2 fIxD (mVar 2) (mVar 4)) (mC (.int 1)))) (mVar 4) [4]) (aNil))) (aNil)))))
theorem sc_x_law_marks : FnScope N_x_law_marks ["_law_pen_here", "_law_wide"] (defScope s_x_law_marks) := ⟨rfl, rfl, rfl, by decide +kernel, rfl, by decide +kernel, by decide +kernel⟩
set_option maxHeartbeats 4000000 in
theorem d_x_law_marks (b : B g) : SB g N_x_law_marks (dsc (defScope s_x_law_marks)) 1 (defBody s_x_law_marks) m_x_law_marks :=
  sb_cons (ss_setS 2 (se_comp [("_law_spot", 3)] (si_range1 (se_var 1) b.f_range) (sg_name 3) (sts_nil) (se_call (fo_x_law_draw_2 b) (sa_cons (se_var 0) (sa_cons (se_int) (sa_nil))))) (by (intro env he; cases env; (simp only at he); subst he; rfl))) (sb_one (ss_ret (se_tup (sa_cons (se_callTy o_tupOf b.f_tuple (by decide +kernel) (sa_cons (se_comp [("_law_at", 4)] (si_range1 (se_var 1) b.f_range) (sg_name 4) (sts_one (st_cmp o_eq (se_ix o_ixD (se_var 2) (se_var 4)) (se_int))) (se_var 4)) (sa_nil))) (sa_cons (se_callTy o_tupOf b.f_tuple (by decide +kernel) (sa_cons (se_comp [("_law_at", 4)] (si_range1 (se_var 1) b.f_range) (sg_name 4) (sts_one (st_cmp o_eq (se_ix o_ixD (se_var 2) (se_var 4)) (se_int))) (se_var 4)) (sa_nil))) (sa_nil))))))
def F_x_law_marks_2 : FD := fdD (runF 5 m_x_law_marks) 2 []
theorem fa_x_law_marks_2 (b : B g) : FA g 2 (df_x_law_marks.ad g.K) F_x_law_marks_2 := by
  obtain ⟨fd, F⟩ := b.q_x_law_marks
  exact FA.of0 (ps := ["_law_pen_here", "_law_wide"]) F sc_x_law_marks (d_x_law_marks b) fun _ _ _ _ _ _ us hl => match us, hl with | [_, _], _ => rfl
theorem fo_x_law_marks_2 (b : B g) : FO g 2 "_law_marks" F_x_law_marks_2 := ⟨⟨_, b.d__law_marks, fa_x_law_marks_2 b⟩⟩
/-! _law_parts -/
abbrev s_x_law_parts : Stmt := top 59
def N_x_law_parts : List Str := ["_law_pen_here", "_law_most", "_law_moves_here"]
def m_x_law_parts : MS := sSeq (sSet 2 (mL F_x_law_moves_2 (aCons (mVar 0) (aCons (mVar 1) (aNil))))) (sRet (m2 fAddG (mTup (aCons (mVar 2) (aNil))) (mL F_x_law_marks_2 (aCons (mVar 0) (aCons (mL (f1 fLen) (aCons (mVar 2) (aNil))) (aNil))))))
theorem sc_x_law_parts : FnScope N_x_law_parts ["_law_pen_here", "_law_most"] (defScope s_x_law_parts) := ⟨rfl, rfl, rfl, by decide +kernel, rfl, by decide +kernel, by decide +kernel⟩
set_option maxHeartbeats 4000000 in
theorem d_x_law_parts (b : B g) : SB g N_x_law_parts (dsc (defScope s_x_law_parts)) 3 (defBody s_x_law_parts) m_x_law_parts :=
  sb_cons (ss_set 2 (se_call (fo_x_law_moves_2 b) (sa_cons (se_var 0) (sa_cons (se_var 1) (sa_nil))))) (sb_one (ss_ret (se_op o_addG (se_tup (sa_cons (se_var 2) (sa_nil))) (se_call (fo_x_law_marks_2 b) (sa_cons (se_var 0) (sa_cons (se_callB o_len b.f_len (by decide +kernel) (sa_cons (se_var 2) (sa_nil))) (sa_nil)))))))
def F_x_law_parts_2 : FD := fdD (runF 3 m_x_law_parts) 2 []
theorem fa_x_law_parts_2 (b : B g) : FA g 4 (df_x_law_parts.ad g.K) F_x_law_parts_2 := by
  obtain ⟨fd, F⟩ := b.q_x_law_parts
  exact FA.of0 (ps := ["_law_pen_here", "_law_most"]) F sc_x_law_parts (d_x_law_parts b) fun _ _ _ _ _ _ us hl => match us, hl with | [_, _], _ => rfl
theorem fo_x_law_parts_2 (b : B g) : FO g 4 "_law_parts" F_x_law_parts_2 := ⟨⟨_, b.d__law_parts, fa_x_law_parts_2 b⟩⟩
/-! law -/
abbrev s_xlaw : Stmt := top 68
def N_xlaw : List Str := ["_law_script", "_law_k", "_law_pen_here", "_law_turn"]
def m_xlaw : MS := sSeq (sFor (iRange1 (mL (f2 fMax2) (aCons (mC (.int 1)) (aCons (mL (f2 fMin2) (aCons (mL (f1 fLen) (aCons (mVar 0) (aNil))) (aCons (mC (.int 3)) (aNil)))) (aNil))))) (gN 1) (sSeq (sSet 2 (mL F_x_law_pen_1 (aCons (mL F_x_law_cell_at_2 (aCons (mVar 0) (aCons (mVar 1) (aNil)))) (aNil)))) (sFor (iRange1 (mC (.int 12))) (gN 3) (sIf (mNotT (mTr (mL F_x_law_right_2 (aCons (mVar 2) (aCons (mL F_x_law_parts_2 (aCons (mVar 2) (aCons (mC (.int 6)) (aNil)))) (aNil)))))) (sRet (mC (.bl false))) (sNil))))) (sRet (mC (.bl true)))
theorem sc_xlaw : FnScope N_xlaw ["_law_script"] (defScope s_xlaw) := ⟨rfl, rfl, rfl, by decide +kernel, rfl, by decide +kernel, by decide +kernel⟩
set_option maxHeartbeats 4000000 in
theorem d_xlaw (b : B g) : SB g N_xlaw (dsc (defScope s_xlaw)) 8 (defBody s_xlaw) m_xlaw :=
  sb_cons (ss_for (si_range1 (se_callB o_max2 b.f_max (by decide +kernel) (sa_cons (se_int) (sa_cons (se_callB o_min2 b.f_min (by decide +kernel) (sa_cons (se_callB o_len b.f_len (by decide +kernel) (sa_cons (se_var 0) (sa_nil))) (sa_cons (se_int) (sa_nil)))) (sa_nil)))) b.f_range) (sg_name 1) (sb_cons (ss_set 2 (se_call (fo_x_law_pen_1 b) (sa_cons (se_call (fo_x_law_cell_at_2 b) (sa_cons (se_var 0) (sa_cons (se_var 1) (sa_nil)))) (sa_nil)))) (sb_one (ss_for (si_range1 (se_int) b.f_range) (sg_name 3) (sb_one (ss_if (st_not (st_tr (se_call (fo_x_law_right_2 b) (sa_cons (se_var 2) (sa_cons (se_call (fo_x_law_parts_2 b) (sa_cons (se_var 2) (sa_cons (se_int) (sa_nil)))) (sa_nil)))))) (sb_one (ss_ret (se_bl))) (sb_nil))))))) (sb_one (ss_ret (se_bl)))
def F_xlaw_1 : FD := fdD (runF 4 m_xlaw) 1 []
theorem fa_xlaw_1 (b : B g) : FA g 9 (df_xlaw.ad g.K) F_xlaw_1 := by
  obtain ⟨fd, F⟩ := b.q_xlaw
  exact FA.of0 (ps := ["_law_script"]) F sc_xlaw (d_xlaw b) fun _ _ _ _ _ _ us hl => match us, hl with | [_], _ => rfl
theorem fo_xlaw_1 (b : B g) : FO g 9 "law" F_xlaw_1 := ⟨⟨_, b.d_law, fa_xlaw_1 b⟩⟩
end Law
end MP
end L2

set_option Elab.async false
set_option linter.all false
set_option maxRecDepth 100000
set_option maxHeartbeats 4000000
namespace L2
namespace MP
namespace Law
open PySem PySem.Spec PyProof.Rows
theorem is_ii : isT (.b .int) (.b .int) = some true := by rfl
theorem is_ib : isT (.b .int) (.b .bool) = some false := by rfl
theorem is_tt : isT (.b .tuple) (.b .tuple) = some true := by rfl
theorem isi_ii {i : Int} {h : Hm} : fIsi isT (.int i) (.ty .int) h = .ok (.bl true) h := by simp [sSeq, sSet, sRet, sIf, sNil, sExpr, sAsg, sPar, m1, m2, mL, mB, mVar, mC, aNil, aCons, aStar, Res.bind, gN, gTn, gCons, gNil, mTup, mLst, mNewL, fTup, fLst, mOrT, mAndT, mNotT, mTr, mAnd, mOr, mIf, mChain, fIB, fII, truth, fNot, nox, f1, f2, ewipe, LIM, fIsi, tcOf, clsD, okTC, is_ii]
theorem isi_ib {i : Int} {h : Hm} : fIsi isT (.int i) (.ty .bool) h = .ok (.bl false) h := by simp [sSeq, sSet, sRet, sIf, sNil, sExpr, sAsg, sPar, m1, m2, mL, mB, mVar, mC, aNil, aCons, aStar, Res.bind, gN, gTn, gCons, gNil, mTup, mLst, mNewL, fTup, fLst, mOrT, mAndT, mNotT, mTr, mAnd, mOr, mIf, mChain, fIB, fII, truth, fNot, nox, f1, f2, ewipe, LIM, fIsi, tcOf, clsD, okTC, is_ib]
theorem isi_tt {l : List D} {h : Hm} : fIsi isT (.tup l) (.ty .tuple) h = .ok (.bl true) h := by simp [sSeq, sSet, sRet, sIf, sNil, sExpr, sAsg, sPar, m1, m2, mL, mB, mVar, mC, aNil, aCons, aStar, Res.bind, gN, gTn, gCons, gNil, mTup, mLst, mNewL, fTup, fLst, mOrT, mAndT, mNotT, mTr, mAnd, mOr, mIf, mChain, fIB, fII, truth, fNot, nox, f1, f2, ewipe, LIM, fIsi, tcOf, clsD, okTC, is_tt]
theorem q_between {x lo hi : Int} {h : Hm} : F_xis_between_3 [.int x, .int lo, .int hi] h = .ok (.bl (decide (lo ≤ x) && decide (x ≤ hi))) h := by
  refine fr_ok (F := runF 3 m_xis_between) (runF_rt0 (h := []) ?_ rfl) rfl rfl h
  simp only [List.map, List.length, List.replicate, List.cons_append, List.nil_append, Nat.sub_self, List.append_nil]
  by_cases h1 : lo ≤ x
  · simp [sSeq, sSet, sRet, sIf, sNil, sExpr, sAsg, sPar, m1, m2, mL, mB, mVar, mC, aNil, aCons, aStar, Res.bind, gN, gTn, gCons, gNil, mTup, mLst, mNewL, fTup, fLst, mOrT, mAndT, mNotT, mTr, mAnd, mOr, mIf, mChain, fIB, fII, truth, fNot, nox, f1, f2, ewipe, LIM, m_xis_between, isi_ii, isi_ib, h1]
  · simp [sSeq, sSet, sRet, sIf, sNil, sExpr, sAsg, sPar, m1, m2, mL, mB, mVar, mC, aNil, aCons, aStar, Res.bind, gN, gTn, gCons, gNil, mTup, mLst, mNewL, fTup, fLst, mOrT, mAndT, mNotT, mTr, mAnd, mOr, mIf, mChain, fIB, fII, truth, fNot, nox, f1, f2, ewipe, LIM, m_xis_between, isi_ii, isi_ib, h1]
theorem q_between_t {x lo hi : Int} {h : Hm} (h1 : lo ≤ x) (h2 : x ≤ hi) : F_xis_between_3 [.int x, .int lo, .int hi] h = .ok (.bl true) h := by
  rw [q_between, decide_eq_true h1, decide_eq_true h2]; rfl
theorem all_tt {α : Type} {l : List α} {h : Hm} : fAll (.lst (l.map fun _ => D.bl true)) h = .ok (.bl true) h := by
  rw [fAll_map (f := fun _ => true)]
  simp
theorem q_ascending {l : List Nat} {n : Nat} {h : Hm} (hp : l.Pairwise (· < ·)) (hb : ∀ x ∈ l, x < n) (hn : n ≤ 6) : F_xare_ascending_2 [eT l, N n] h = .ok (.bl true) h := by
  have hl := PF.asc_len hp hb
  refine fr_ok (F := runF 3 m_xare_ascending) (runF_rt0 (h := []) ?_ rfl) (by simp [sSeq, sSet, sRet, sIf, sNil, sExpr, sAsg, sPar, m1, m2, mL, mB, mVar, mC, aNil, aCons, aStar, Res.bind, gN, gTn, gCons, gNil, mTup, mLst, mNewL, fTup, fLst, mOrT, mAndT, mNotT, mTr, mAnd, mOr, mIf, mChain, fIB, fII, truth, fNot, nox, f1, f2, ewipe, LIM, D.lows, low_eT, low_N]) rfl h
  show m_xare_ascending [some (eT l), some (N n), none] [] = _
  have c := comp_map (mi := iAny (mVar 0)) (t := gN 2) (elt := mL F_xis_between_3 (aCons (mVar 2) (aCons (mC (.int 0)) (aCons (m2 fSub (mVar 1) (mC (.int 1))) (aNil))))) (vs := [2]) (e := [some (eT l), some (N n), none]) (h := []) (h1 := []) (xs := l) (en := N) (f := fun x => .bl true) rfl (by unfold LIM; omega) (fun x hx => ⟨_, rfl, by
    have := hb x hx
    simp [sSeq, sSet, sRet, sIf, sNil, sExpr, sAsg, sPar, m1, m2, mL, mB, mVar, mC, aNil, aCons, aStar, Res.bind, gN, gTn, gCons, gNil, mTup, mLst, mNewL, fTup, fLst, mOrT, mAndT, mNotT, mTr, mAnd, mOr, mIf, mChain, fIB, fII, truth, fNot, nox, f1, f2, ewipe, LIM, q_between_t (x := x) (lo := 0) (hi := (n : Int) - 1) (h := []) (by omega) (by omega)]⟩)
  have c3 : fIsi isT (eT l) (.ty .tuple) [] = .ok (.bl true) [] := isi_tt
  have c4 : rdS [] (eT l) = some (l.map N) := rfl
  have c5 : D.lst (l.map N) = eL l := rfl
  simp [sSeq, sSet, sRet, sIf, sNil, sExpr, sAsg, sPar, m1, m2, mL, mB, mVar, mC, aNil, aCons, aStar, Res.bind, gN, gTn, gCons, gNil, mTup, mLst, mNewL, fTup, fLst, mOrT, mAndT, mNotT, mTr, mAnd, mOr, mIf, mChain, fIB, fII, truth, fNot, nox, f1, f2, ewipe, LIM, m_xare_ascending, c, c3, all_tt, fSortSet_T (l := l) (h := []) (by omega), fLstOf, c4, c5, PF.sortU_id hp, fEq_L]
theorem isi_M {m : List (List (List Nat))} {h : Hm} : fIsi isT (eM m) (.ty .tuple) h = .ok (.bl true) h := isi_tt
theorem isi_R {m : List (List Nat)} {h : Hm} : fIsi isT (eR m) (.ty .tuple) h = .ok (.bl true) h := isi_tt
theorem isi_T {m : List Nat} {h : Hm} : fIsi isT (eT m) (.ty .tuple) h = .ok (.bl true) h := isi_tt
theorem len_M {m : List (List (List Nat))} {h : Hm} : fLen (eM m) h = .ok (N m.length) h := fLen_T.trans (by rw [List.length_map])
theorem len_R {m : List (List Nat)} {h : Hm} : fLen (eR m) h = .ok (N m.length) h := fLen_T.trans (by rw [List.length_map])
theorem ix_M {m : List (List (List Nat))} {i : Nat} {r : List (List Nat)} {h : Hm} (e : m[i]? = some r) : fIxD (eM m) (N i) h = .ok (eR r) h := fIx_T e
theorem ix_R {m : List (List Nat)} {i : Nat} {r : List Nat} {h : Hm} (e : m[i]? = some r) : fIxD (eR m) (N i) h = .ok (eT r) h := fIx_T e
theorem ix_T {m : List Nat} {i : Nat} {r : Nat} {h : Hm} (e : m[i]? = some r) : fIxD (eT m) (N i) h = .ok (N r) h := fIx_T e
theorem mv0 {p : PF.Pl} (ok : p.Ok) : ∃ r, p.mv[0]? = some r ∧ r.length = p.k := by
  have h1 := ok.n1
  refine ⟨p.mv[0], by simp, ok.rows _ (List.getElem_mem _)⟩
theorem q_moves {p : PF.Pl} (ok : p.Ok) {h : Hm} : F_xare_moves_1 [eM p.mv] h = .ok (.bl true) h := by
  have h1 := ok.n1
  have h6 := ok.n6
  have k1 := ok.k1
  have k3 := ok.k3
  obtain ⟨r0, er0, lr0⟩ := mv0 ok
  have hlim : p.mv.length ≤ LIM := by unfold LIM; omega
  refine fr_ok (F := runF 3 m_xare_moves) (runF_rt0 (h := []) ?_ rfl) (by simp [sSeq, sSet, sRet, sIf, sNil, sExpr, sAsg, sPar, m1, m2, mL, mB, mVar, mC, aNil, aCons, aStar, Res.bind, gN, gTn, gCons, gNil, mTup, mLst, mNewL, fTup, fLst, mOrT, mAndT, mNotT, mTr, mAnd, mOr, mIf, mChain, fIB, fII, truth, fNot, nox, f1, f2, ewipe, LIM, D.lows, low_eM]) rfl h
  show m_xare_moves [some (eM p.mv), none, none] [] = _
  have c1 := comp_map (mi := iAny (mVar 0)) (t := gN 1) (elt := mAnd (mL (f2 (fIsi isT)) (aCons (mVar 1) (aCons (mC (.ty .tuple)) (aNil)))) (mChain fLe fLe (mC (.int 1)) (mL (f1 fLen) (aCons (mVar 1) (aNil))) (mC (.int 3)))) (vs := [1]) (e := [some (eM p.mv), none, none]) (h := []) (h1 := []) (xs := p.mv) (en := eR) (f := fun x => .bl true) rfl hlim (fun x hx => ⟨_, rfl, by
    have e1 := ok.rows x hx
    have e2 : decide ((1 : Int) ≤ x.length) = true := decide_eq_true (by omega)
    have e3 : decide ((x.length : Int) ≤ 3) = true := decide_eq_true (by omega)
    simp only [mAnd, mL, aCons, aNil, mVar, mC, ewipe, gN, Res.bind, f2, f1, mChain, isi_R, len_R, fLe, fIB, List.set, List.getElem?_cons_succ, List.getElem?_cons_zero, e2, e3]⟩)
  have c2 := comp_map (mi := iAny (mVar 0)) (t := gN 1) (elt := m2 fEq (mL (f1 fLen) (aCons (mVar 1) (aNil))) (mL (f1 fLen) (aCons (m2 fIxD (mVar 0) (mC (.int 0))) (aNil)))) (vs := [1]) (e := [some (eM p.mv), none, none]) (h := []) (h1 := []) (xs := p.mv) (en := eR) (f := fun x => .bl true) rfl hlim (fun x hx => ⟨_, rfl, by
    have e1 := ok.rows x hx
    have e2 : fIxD (eM p.mv) (.int 0) [] = .ok (eR r0) [] := ix_M er0
    simp [sSeq, sSet, sRet, sIf, sNil, sExpr, sAsg, sPar, m1, m2, mL, mB, mVar, mC, aNil, aCons, aStar, Res.bind, gN, gTn, gCons, gNil, mTup, mLst, mNewL, fTup, fLst, mOrT, mAndT, mNotT, mTr, mAnd, mOr, mIf, mChain, fIB, fII, truth, fNot, nox, f1, f2, ewipe, LIM, len_R, e2, fEq_I, e1, lr0]⟩)
  have c3 := comp2_map (mi := iAny (mVar 0)) (t := gN 1) (mi1 := iAny (mVar 1)) (t1 := gN 2) (elt := mAnd (mL F_xare_ascending_2 (aCons (mVar 2) (aCons (mL (f1 fLen) (aCons (mVar 0) (aNil))) (aNil)))) (m2 fGt (mL (f1 fLen) (aCons (mVar 2) (aNil))) (mC (.int 0)))) (vs := [1, 2]) (vs1 := [2]) (e := [some (eM p.mv), none, none]) (h := []) (h1 := []) (xs := p.mv) (en := eR) (ys := fun r => r) (en1 := eT) (f := fun _ _ => .bl true) rfl (by
    have : ∀ l : List (List (List Nat)), (∀ r ∈ l, r.length ≤ 3) → (l.flatMap fun r => r).length ≤ 3 * l.length := by
      intro l
      induction l with
      | nil => simp
      | cons r l ih =>
        intro q
        have a := q r (by simp)
        have b := ih fun y hy => q y (by simp [sSeq, sSet, sRet, sIf, sNil, sExpr, sAsg, sPar, m1, m2, mL, mB, mVar, mC, aNil, aCons, aStar, Res.bind, gN, gTn, gCons, gNil, mTup, mLst, mNewL, fTup, fLst, mOrT, mAndT, mNotT, mTr, mAnd, mOr, mIf, mChain, fIB, fII, truth, fNot, nox, f1, f2, ewipe, LIM, hy])
        rw [List.flatMap_cons, List.length_append, List.length_cons]
        omega
    have := this p.mv fun r hr => by rw [ok.rows r hr]; exact k3
    unfold LIM; omega) (fun x hx => ⟨_, rfl, rfl, fun y hy => ⟨_, rfl, by
      obtain ⟨a1, a2, a3⟩ := ok.asc x hx y hy
      have e1 := q_ascending (h := []) a2 a3 h6
      have e2 : decide ((0 : Int) < y.length) = true := decide_eq_true (by have := List.length_pos_iff.mpr a1; omega)
      simp only [mAnd, mL, aCons, aNil, mVar, mC, ewipe, gN, Res.bind, f2, f1, m2, e1, len_M, fLen_eT, fGt, fIB, List.set, List.getElem?_cons_succ, List.getElem?_cons_zero, e2]⟩⟩)
  have c4 : fAll (.lst (p.mv.flatMap fun r => r.map fun _ => D.bl true)) [] = .ok (.bl true) [] := by
    rw [fAll_flat (f := fun _ _ => true) (g := fun r => r)]
    simp
  have e2 : decide ((1 : Int) ≤ p.mv.length) = true := decide_eq_true (by omega)
  have e3 : decide ((p.mv.length : Int) ≤ 6) = true := decide_eq_true (by omega)
  have d1 : mChain fLe fLe (mC (.int 1)) (mL (f1 fLen) (aCons (mVar 0) (aNil))) (mC (.int 6)) [some (eM p.mv), none, none] [] = .ok (.bl true) [] := by
    simp only [mChain, mC, mL, f1, aCons, aNil, mVar, Res.bind, len_M, fIB, e2, e3, List.getElem?_cons_zero]
  simp [sSeq, sSet, sRet, sIf, sNil, sExpr, sAsg, sPar, m1, m2, mL, mB, mVar, mC, aNil, aCons, aStar, Res.bind, gN, gTn, gCons, gNil, mTup, mLst, mNewL, fTup, fLst, mOrT, mAndT, mNotT, mTr, mAnd, mOr, mIf, fIB, fII, truth, fNot, nox, f1, f2, ewipe, LIM, m_xare_moves, c1, c2, c3, c4, all_tt, isi_M, d1]
end Law
end MP
end L2

set_option Elab.async false
set_option linter.all false
set_option maxRecDepth 100000
set_option maxHeartbeats 4000000
namespace L2
namespace MP
namespace Law
open PySem PySem.Spec PyProof.Rows
theorem any_ff {α : Type} {l : List α} {h : Hm} : fAny (.lst (l.map fun _ => D.bl false)) h = .ok (.bl false) h := by
  rw [fAny_map (f := fun _ => false)]
  simp
theorem q_init {p : PF.Pl} (ok : p.Ok) : ∃ e', m_xPlantDUinitU [some (.loc 0), some (eM p.mv), some (eT p.bad), some (eT p.goal), none, none] [some (.ins 0 [])] = .nx e' [some (.ins 0 [(.rows, eM p.mv), (.marks, .tup [eT p.bad, eT p.goal])])] := by
  have h6 := ok.n6
  have b1 := q_ascending (h := [some (.ins 0 [])]) ok.bads.1 ok.bads.2 h6
  have b2 := q_ascending (h := [some (.ins 0 [])]) ok.goals.1 ok.goals.2 h6
  have hb := PF.asc_len ok.bads.1 ok.bads.2
  have c1 := comp_map (mi := iAny (mVar 2)) (t := gN 5) (elt := m2 (fMem false) (mVar 5) (mVar 3)) (vs := [5]) (e := [some (.loc 0), some (eM p.mv), some (eT p.bad), some (eT p.goal), some (eT p.goal), none]) (h := [some (.ins 0 [])]) (h1 := [some (.ins 0 [])]) (xs := p.bad) (en := N) (f := fun x => .bl false) rfl (by unfold LIM; omega) (fun x hx => ⟨_, rfl, by
    have e1 : p.goal.contains x = false := by
      have := ok.dis x hx
      simpa using this
    simp only [m2, mVar, ewipe, gN, Res.bind, List.set, List.getElem?_cons_succ, List.getElem?_cons_zero, fMem_T, e1]
    rfl⟩)
  refine ⟨[some (.loc 0), some (eM p.mv), some (eT p.bad), some (eT p.goal), some (eT p.goal), none], ?_⟩
  simp [sSeq, sSet, sRet, sIf, sNil, sExpr, sAsg, sPar, m1, m2, mL, mB, mVar, mC, aNil, aCons, aStar, Res.bind, gN, gTn, gCons, gNil, mTup, mLst, mNewL, fTup, fLst, mOrT, mAndT, mNotT, mTr, mAnd, mOr, mIf, mChain, fIB, fII, truth, fNot, nox, f1, f2, ewipe, LIM, m_xPlantDUinitU, q_moves ok, sFor, iAny, forL, b1, b2, len_M, c1, any_ff, sFld, Hm.get, putFD]
theorem q_plant {p : PF.Pl} (ok : p.Ok) : C_Plant_3 [eM p.mv, eT p.bad, eT p.goal] [] = .ok (ePl p) [] := by
  obtain ⟨e', e⟩ := q_init ok
  have e2 : F_xPlantDUinitU_4 [.loc 0, eM p.mv, eT p.bad, eT p.goal] [some (.ins 0 [])] = .ok .non [some (.ins 0 [(.rows, eM p.mv), (.marks, .tup [eT p.bad, eT p.goal])])] := by
    show runS 1 (m_xPlantDUinitU [some (.loc 0), some (eM p.mv), some (eT p.bad), some (eT p.goal), none, none] [some (.ins 0 [])]) = _
    rw [e]
    exact fin1_same' (by simp)
  unfold C_Plant_3 mkD
  simp only [List.length_nil, List.nil_append, e2]
  simp only [Hm.get]
  exact fin1_zero (low_ePl (p := p))
theorem q_made {p : PF.Pl} (ok : p.Ok) {h : Hm} : F_x_law_made_1 [.tup [eM p.mv, eT p.bad, eT p.goal]] h = .ok (ePl p) h := by
  refine fr_ok (F := runF 1 m_x_law_made) (runF_rt0 (h := []) ?_ low_ePl) (by simp [sSeq, sSet, sRet, sIf, sNil, sExpr, sAsg, sPar, m1, m2, mL, mB, mVar, mC, aNil, aCons, aStar, Res.bind, gN, gTn, gCons, gNil, mTup, mLst, mNewL, fTup, fLst, mOrT, mAndT, mNotT, mTr, mAnd, mOr, mIf, mChain, fIB, fII, truth, fNot, nox, f1, f2, ewipe, LIM, D.lows, D.low, low_eM, low_eT]) rfl h
  show m_x_law_made [some (.tup [eM p.mv, eT p.bad, eT p.goal])] [] = _
  simp [sSeq, sSet, sRet, sIf, sNil, sExpr, sAsg, sPar, m1, m2, mL, mB, mVar, mC, aNil, aCons, aStar, Res.bind, gN, gTn, gCons, gNil, mTup, mLst, mNewL, fTup, fLst, mOrT, mAndT, mNotT, mTr, mAnd, mOr, mIf, mChain, fIB, fII, truth, fNot, nox, f1, f2, ewipe, LIM, m_x_law_made, fIxD, rdD, fIx, rdS, L2.atI, L2.ixN, q_plant ok]
/-! ### what a plant tells -/
theorem F_orders {p : PF.Pl} (ok : p.Ok) {h : Hm} : F_xPlantDorders_1 [ePl p] h = .ok (N p.k) h := by
  obtain ⟨r0, er0, lr0⟩ := mv0 ok
  refine runF_rt (len := 1) (m := m_xPlantDorders) (as := [ePl p]) ?_
  have e2 : fIxD (eM p.mv) (.int 0) h = .ok (eR r0) h := ix_M er0
  have e3 : fFld .rows (ePl p) h = .ok (eM p.mv) h := rfl
  show m_xPlantDorders [some (ePl p)] h = _
  simp [sSeq, sSet, sRet, sIf, sNil, sExpr, sAsg, sPar, m1, m2, mL, mB, mVar, mC, aNil, aCons, aStar, Res.bind, gN, gTn, gCons, gNil, mTup, mLst, mNewL, fTup, fLst, mOrT, mAndT, mNotT, mTr, mAnd, mOr, mIf, mChain, fIB, fII, truth, fNot, nox, f1, f2, ewipe, LIM, m_xPlantDorders, e3, e2, len_R, lr0]
theorem F_moves {p : PF.Pl} {h : Hm} : F_xPlantDmoves_1 [ePl p] h = .ok (eM p.mv) h := runF_rt (len := 1) (m := m_xPlantDmoves) (as := [ePl p]) rfl
theorem F_bad {p : PF.Pl} {h : Hm} : F_xPlantDbad_1 [ePl p] h = .ok (eT p.bad) h := runF_rt (len := 1) (m := m_xPlantDbad) (as := [ePl p]) rfl
theorem p_orders {p : PF.Pl} (ok : p.Ok) {a : ME} {e : Ev} {h h1 : Hm} (ha : a e h = .ok (ePl p) h1) : mProp (TBL.f P_orders) a e h = .ok (N p.k) h1 := by
  have e1 : (clsOf h1 (ePl p)).bind (TBL.f P_orders) = some F_xPlantDorders_1 := rfl
  simp only [mProp, ha, Res.bind, e1, F_orders ok, nox]
theorem p_moves {p : PF.Pl} {a : ME} {e : Ev} {h h1 : Hm} (ha : a e h = .ok (ePl p) h1) : mProp (TBL.f P_moves) a e h = .ok (eM p.mv) h1 := by
  have e1 : (clsOf h1 (ePl p)).bind (TBL.f P_moves) = some F_xPlantDmoves_1 := rfl
  simp only [mProp, ha, Res.bind, e1, F_moves, nox]
theorem p_bad {p : PF.Pl} {a : ME} {e : Ev} {h h1 : Hm} (ha : a e h = .ok (ePl p) h1) : mProp (TBL.f P_bad) a e h = .ok (eT p.bad) h1 := by
  have e1 : (clsOf h1 (ePl p)).bind (TBL.f P_bad) = some F_xPlantDbad_1 := rfl
  simp only [mProp, ha, Res.bind, e1, F_bad, nox]
theorem F_goal {p : PF.Pl} {h : Hm} : F_xPlantDgoal_1 [ePl p] h = .ok (eT p.goal) h := runF_rt (len := 1) (m := m_xPlantDgoal) (as := [ePl p]) rfl
theorem p_goal {p : PF.Pl} {a : ME} {e : Ev} {h h1 : Hm} (ha : a e h = .ok (ePl p) h1) : mProp (TBL.f P_goal) a e h = .ok (eT p.goal) h1 := by
  have e1 : (clsOf h1 (ePl p)).bind (TBL.f P_goal) = some F_xPlantDgoal_1 := rfl
  simp only [mProp, ha, Res.bind, e1, F_goal, nox]
theorem p_len {p : PF.Pl} (ok : p.Ok) {h : Hm} : fLenI (TBL.f T_len) (ePl p) h = .ok (N p.n) h := by
  have e1 : (clsOf h (ePl p)).bind (TBL.f T_len) = some F_xPlantDUlenU_1 := rfl
  have e2 : F_xPlantDUlenU_1 [ePl p] h = .ok (N p.n) h := by
    refine runF_rt (len := 1) (m := m_xPlantDUlenU) (as := [ePl p]) ?_
    show m_xPlantDUlenU [some (ePl p)] h = _
    have e3 : fFld .rows (ePl p) h = .ok (eM p.mv) h := rfl
    simp [sSeq, sSet, sRet, sIf, sNil, sExpr, sAsg, sPar, m1, m2, mL, mB, mVar, mC, aNil, aCons, aStar, Res.bind, gN, gTn, gCons, gNil, mTup, mLst, mNewL, fTup, fLst, mOrT, mAndT, mNotT, mTr, mAnd, mOr, mIf, mChain, fIB, fII, truth, fNot, nox, f1, f2, ewipe, LIM, m_xPlantDUlenU, e3, len_M, PF.Pl.n]
  have h6 : p.n ≤ 6 := ok.n6
  exact fLenI_ok e1 e2 (by omega) (by omega)
theorem m_len {p : PF.Pl} (ok : p.Ok) {a : ME} {e : Ev} {h h1 : Hm} (ha : a e h = .ok (ePl p) h1) : mL (f1 (fLenI (TBL.f T_len))) (aCons a aNil) e h = .ok (N p.n) h1 := by
  have q := p_len ok (h := h1)
  generalize fLenI (TBL.f T_len) = F at q ⊢
  simp [sSeq, sSet, sRet, sIf, sNil, sExpr, sAsg, sPar, m1, m2, mL, mB, mVar, mC, aNil, aCons, aStar, Res.bind, gN, gTn, gCons, gNil, mTup, mLst, mNewL, fTup, fLst, mOrT, mAndT, mNotT, mTr, mAnd, mOr, mIf, mChain, fIB, fII, truth, fNot, nox, f1, f2, ewipe, LIM, ha, q]
theorem place_core {p : PF.Pl} {x n : Nat} {h : Hm} (M : ME) (q : M [some (ePl p), some (N x)] h = .ok (N n) h) (q2 : F_xis_between_3 [D.int x, D.int 0, D.int ((n : Int) - 1)] h = .ok (.bl true) h) : sRet (mL F_xis_between_3 (aCons (mVar 1) (aCons (mC (.int 0)) (aCons (m2 fSub M (mC (.int 1))) (aNil))))) [some (ePl p), some (N x)] h = .rt (.bl true) h := by
  simp [sSeq, sSet, sRet, sIf, sNil, sExpr, sAsg, sPar, m1, m2, mL, mB, mVar, mC, aNil, aCons, aStar, Res.bind, gN, gTn, gCons, gNil, mTup, mLst, mNewL, fTup, fLst, mOrT, mAndT, mNotT, mTr, mAnd, mOr, mIf, mChain, fIB, fII, truth, fNot, nox, f1, f2, ewipe, LIM, q, q2]
theorem q_place {p : PF.Pl} (ok : p.Ok) {x : Nat} (hx : x < p.n) {h : Hm} : F_xis_place_2 [ePl p, N x] h = .ok (.bl true) h := by
  refine fr_ok (F := runF 2 m_xis_place) (runF_rt0 (h := []) ?_ rfl) (by simp [sSeq, sSet, sRet, sIf, sNil, sExpr, sAsg, sPar, m1, m2, mL, mB, mVar, mC, aNil, aCons, aStar, Res.bind, gN, gTn, gCons, gNil, mTup, mLst, mNewL, fTup, fLst, mOrT, mAndT, mNotT, mTr, mAnd, mOr, mIf, mChain, fIB, fII, truth, fNot, nox, f1, f2, ewipe, LIM, D.lows, low_ePl, low_N]) rfl h
  have q := m_len ok (a := mVar 0) (e := [some (ePl p), some (N x)]) (h := []) (h1 := []) rfl
  exact place_core _ q (q_between_t (by omega) (by omega))
theorem q_order {p : PF.Pl} (ok : p.Ok) {x : Nat} (hx : x < p.k) {h : Hm} : F_xis_order_2 [ePl p, N x] h = .ok (.bl true) h := by
  refine fr_ok (F := runF 2 m_xis_order) (runF_rt0 (h := []) ?_ rfl) (by simp [sSeq, sSet, sRet, sIf, sNil, sExpr, sAsg, sPar, m1, m2, mL, mB, mVar, mC, aNil, aCons, aStar, Res.bind, gN, gTn, gCons, gNil, mTup, mLst, mNewL, fTup, fLst, mOrT, mAndT, mNotT, mTr, mAnd, mOr, mIf, mChain, fIB, fII, truth, fNot, nox, f1, f2, ewipe, LIM, D.lows, low_ePl, low_N]) rfl h
  show m_xis_order [some (ePl p), some (N x)] [] = _
  have e1 := p_orders ok (a := mVar 0) (e := [some (ePl p), some (N x)]) (h := []) (h1 := []) rfl
  simp [sSeq, sSet, sRet, sIf, sNil, sExpr, sAsg, sPar, m1, m2, mL, mB, mVar, mC, aNil, aCons, aStar, Res.bind, gN, gTn, gCons, gNil, mTup, mLst, mNewL, fTup, fLst, mOrT, mAndT, mNotT, mTr, mAnd, mOr, mIf, mChain, fIB, fII, truth, fNot, nox, f1, f2, ewipe, LIM, m_xis_order, e1, q_between_t (x := x) (lo := 0) (hi := (p.k : Int) - 1) (h := []) (by omega) (by omega)]
theorem q_row {p : PF.Pl} (ok : p.Ok) {r : List Nat} {m : Nat} (hl : r.length ≤ m) (hm : m ≤ 8) (hr : ∀ o ∈ r, o < p.k) {h : Hm} : F_xis_row_3 [ePl p, eT r, N m] h = .ok (.bl true) h := by
  refine fr_ok (F := runF 4 m_xis_row) (runF_rt0 (h := []) ?_ rfl) (by simp [sSeq, sSet, sRet, sIf, sNil, sExpr, sAsg, sPar, m1, m2, mL, mB, mVar, mC, aNil, aCons, aStar, Res.bind, gN, gTn, gCons, gNil, mTup, mLst, mNewL, fTup, fLst, mOrT, mAndT, mNotT, mTr, mAnd, mOr, mIf, mChain, fIB, fII, truth, fNot, nox, f1, f2, ewipe, LIM, D.lows, low_ePl, low_N, low_eT]) rfl h
  show m_xis_row [some (ePl p), some (eT r), some (N m), none] [] = _
  have c1 := comp_map (mi := iAny (mVar 1)) (t := gN 3) (elt := mL F_xis_order_2 (aCons (mVar 0) (aCons (mVar 3) (aNil)))) (vs := [3]) (e := [some (ePl p), some (eT r), some (N m), none]) (h := []) (h1 := []) (xs := r) (en := N) (f := fun x => .bl true) rfl (by unfold LIM; omega) (fun x hx => ⟨_, rfl, by simp [sSeq, sSet, sRet, sIf, sNil, sExpr, sAsg, sPar, m1, m2, mL, mB, mVar, mC, aNil, aCons, aStar, Res.bind, gN, gTn, gCons, gNil, mTup, mLst, mNewL, fTup, fLst, mOrT, mAndT, mNotT, mTr, mAnd, mOr, mIf, mChain, fIB, fII, truth, fNot, nox, f1, f2, ewipe, LIM, q_order ok (hr x hx)]⟩)
  simp [sSeq, sSet, sRet, sIf, sNil, sExpr, sAsg, sPar, m1, m2, mL, mB, mVar, mC, aNil, aCons, aStar, Res.bind, gN, gTn, gCons, gNil, mTup, mLst, mNewL, fTup, fLst, mOrT, mAndT, mNotT, mTr, mAnd, mOr, mIf, mChain, fIB, fII, truth, fNot, nox, f1, f2, ewipe, LIM, m_xis_row, isi_T, fLen_eT, hl, c1, all_tt]
theorem ix_S0 {s : PF.Sit} {h : Hm} : fIxD (eS s) (.int 0) h = .ok (N s.1) h := rfl
theorem ix_S1 {s : PF.Sit} {h : Hm} : fIxD (eS s) (.int 1) h = .ok (eT s.2) h := rfl
theorem isi_S {s : PF.Sit} {h : Hm} : fIsi isT (eS s) (.ty .tuple) h = .ok (.bl true) h := isi_tt
theorem len_S {s : PF.Sit} {h : Hm} : fLen (eS s) h = .ok (.int 2) h := rfl
theorem q_situation {p : PF.Pl} (ok : p.Ok) {m : Nat} (hm : m ≤ 8) {s : PF.Sit} (hs : PF.SOk p m s) {h : Hm} : F_xis_situation_3 [ePl p, eS s, N m] h = .ok (.bl true) h := by
  refine runF_rt (len := 3) (m := m_xis_situation) (as := [ePl p, eS s, N m]) ?_
  show m_xis_situation [some (ePl p), some (eS s), some (N m)] h = _
  simp [sSeq, sSet, sRet, sIf, sNil, sExpr, sAsg, sPar, m1, m2, mL, mB, mVar, mC, aNil, aCons, aStar, Res.bind, gN, gTn, gCons, gNil, mTup, mLst, mNewL, fTup, fLst, mOrT, mAndT, mNotT, mTr, mAnd, mOr, mIf, mChain, fIB, fII, truth, fNot, nox, f1, f2, ewipe, LIM, m_xis_situation, isi_S, len_S, fNe_I, ix_S0, ix_S1, q_place ok hs.at_, q_row ok hs.len hm hs.row]
theorem isi_P {p : PF.Pl} {h : Hm} : fIsi isT (ePl p) (.cls 0) h = .ok (.bl true) h := by
  have : isT (.c 0) (.c 0) = some true := by rfl
  simp [sSeq, sSet, sRet, sIf, sNil, sExpr, sAsg, sPar, m1, m2, mL, mB, mVar, mC, aNil, aCons, aStar, Res.bind, gN, gTn, gCons, gNil, mTup, mLst, mNewL, fTup, fLst, mOrT, mAndT, mNotT, mTr, mAnd, mOr, mIf, mChain, fIB, fII, truth, fNot, nox, f1, f2, ewipe, LIM, fIsi, tcOf, clsD, okTC, ePl, this]
theorem q_need_plant {p : PF.Pl} {h : Hm} : F_xneed_plant_1 [ePl p] h = .ok .non h := by
  refine fr_ok (F := runF 1 m_xneed_plant) (runF_nx0 (e' := [some (ePl p)]) (h := []) ?_) (by simp [sSeq, sSet, sRet, sIf, sNil, sExpr, sAsg, sPar, m1, m2, mL, mB, mVar, mC, aNil, aCons, aStar, Res.bind, gN, gTn, gCons, gNil, mTup, mLst, mNewL, fTup, fLst, mOrT, mAndT, mNotT, mTr, mAnd, mOr, mIf, mChain, fIB, fII, truth, fNot, nox, f1, f2, ewipe, LIM, D.lows, low_ePl]) rfl h
  show m_xneed_plant [some (ePl p)] [] = _
  simp [sSeq, sSet, sRet, sIf, sNil, sExpr, sAsg, sPar, m1, m2, mL, mB, mVar, mC, aNil, aCons, aStar, Res.bind, gN, gTn, gCons, gNil, mTup, mLst, mNewL, fTup, fLst, mOrT, mAndT, mNotT, mTr, mAnd, mOr, mIf, mChain, fIB, fII, truth, fNot, nox, f1, f2, ewipe, LIM, m_xneed_plant, isi_P]
end Law
end MP
end L2

set_option Elab.async false
set_option linter.all false
set_option maxRecDepth 100000
set_option maxHeartbeats 4000000
namespace L2
namespace MP
namespace Law
open PySem PySem.Spec PyProof.Rows
/-! ### where things may stand -/
theorem q_led {p : PF.Pl} (ok : p.Ok) {ps : List Nat} {o : Nat} (hp : ∀ x ∈ ps, x < p.n) (hl : ps.length ≤ 6) (ho : o < p.k) {h : Hm} : F_xled_3 [ePl p, eT ps, N o] h = .ok (eT (PF.led p ps o)) h := by
  refine fr_ok (F := runF 5 m_xled) (runF_rt0 (h := []) ?_ low_eT) (by simp [sSeq, sSet, sRet, sIf, sNil, sExpr, sAsg, sPar, m1, m2, mL, mB, mVar, mC, aNil, aCons, aStar, Res.bind, gN, gTn, gCons, gNil, mTup, mLst, mNewL, fTup, fLst, mOrT, mAndT, mNotT, mTr, mAnd, mOr, mIf, mChain, fIB, fII, truth, fNot, nox, f1, f2, ewipe, LIM, D.lows, low_ePl, low_eT, low_N]) rfl h
  show m_xled [some (ePl p), some (eT ps), some (N o), none, none] [] = _
  have h6 : p.n ≤ 6 := ok.n6
  have hlen : (ps.flatMap fun x => PF.ans p x o).length ≤ 6 * ps.length := by
    have : ∀ l : List Nat, (∀ x ∈ l, x < p.n) → (l.flatMap fun x => PF.ans p x o).length ≤ 6 * l.length := by
      intro l
      induction l with
      | nil => simp
      | cons x l ih =>
        intro q
        have a := PF.ans_ok ok (q x (by simp)) ho
        have a2 := PF.asc_len a.2.1 a.2.2
        have b := ih fun y hy => q y (by simp [sSeq, sSet, sRet, sIf, sNil, sExpr, sAsg, sPar, m1, m2, mL, mB, mVar, mC, aNil, aCons, aStar, Res.bind, gN, gTn, gCons, gNil, mTup, mLst, mNewL, fTup, fLst, mOrT, mAndT, mNotT, mTr, mAnd, mOr, mIf, mChain, fIB, fII, truth, fNot, nox, f1, f2, ewipe, LIM, hy])
        rw [List.flatMap_cons, List.length_append, List.length_cons]
        omega
    exact this ps hp
  have c := comp2_map (mi := iAny (mVar 1)) (t := gN 3) (mi1 := iAny (m2 fIxD (m2 fIxD (mProp (TBL.f P_moves) (mVar 0)) (mVar 3)) (mVar 2))) (t1 := gN 4) (elt := mVar 4) (vs := [3, 4]) (vs1 := [4]) (e := [some (ePl p), some (eT ps), some (N o), none, none]) (h := []) (h1 := []) (xs := ps) (en := N) (ys := fun x => PF.ans p x o) (en1 := N) (f := fun _ y => N y) rfl (by unfold LIM; omega) (fun x hx => ⟨_, rfl, by
      have hx' : x < p.mv.length := hp x hx
      have hr := ok.rows _ (List.getElem_mem hx')
      have ho' : o < (p.mv[x]).length := by rw [hr]; exact ho
      have e1 : p.mv[x]? = some p.mv[x] := by simp [sSeq, sSet, sRet, sIf, sNil, sExpr, sAsg, sPar, m1, m2, mL, mB, mVar, mC, aNil, aCons, aStar, Res.bind, gN, gTn, gCons, gNil, mTup, mLst, mNewL, fTup, fLst, mOrT, mAndT, mNotT, mTr, mAnd, mOr, mIf, mChain, fIB, fII, truth, fNot, nox, f1, f2, ewipe, LIM, hx']
      have e2 : (p.mv[x])[o]? = some (PF.ans p x o) := by
        unfold PF.ans
        simp [sSeq, sSet, sRet, sIf, sNil, sExpr, sAsg, sPar, m1, m2, mL, mB, mVar, mC, aNil, aCons, aStar, Res.bind, gN, gTn, gCons, gNil, mTup, mLst, mNewL, fTup, fLst, mOrT, mAndT, mNotT, mTr, mAnd, mOr, mIf, mChain, fIB, fII, truth, fNot, nox, f1, f2, ewipe, LIM, List.getD, hx', ho']
      have e3 := p_moves (p := p) (a := mVar 0) (e := [some (ePl p), some (eT ps), some (N o), some (N x), none]) (h := []) (h1 := []) rfl
      refine iAny_t ?_
      show m2 fIxD (m2 fIxD (mProp (TBL.f P_moves) (mVar 0)) (mVar 3)) (mVar 2) [some (ePl p), some (eT ps), some (N o), some (N x), none] [] = .ok (eT (PF.ans p x o)) []
      simp [sSeq, sSet, sRet, sIf, sNil, sExpr, sAsg, sPar, m1, m2, mL, mB, mVar, mC, aNil, aCons, aStar, Res.bind, gN, gTn, gCons, gNil, mTup, mLst, mNewL, fTup, fLst, mOrT, mAndT, mNotT, mTr, mAnd, mOr, mIf, mChain, fIB, fII, truth, fNot, nox, f1, f2, ewipe, LIM, e3, ix_M e1, ix_R e2], fun y hy => ⟨_, rfl, rfl⟩⟩)
  have c2 : D.lst (ps.flatMap fun x => (PF.ans p x o).map fun y => N y) = eL (ps.flatMap fun x => PF.ans p x o) := by
    unfold eL
    rw [List.map_flatMap]
  have c3 := fSortSet_L (h := []) (l := ps.flatMap fun x => PF.ans p x o) (by omega)
  simp only [m_xled, sRet, mL, f1, aCons, aNil, m1, c, Res.bind, c2, c3]
  rfl
theorem q_after {p : PF.Pl} (ok : p.Ok) {ps row : List Nat} (hp : ∀ x ∈ ps, x < p.n) (hl : ps.Pairwise (· < ·)) (ho : ∀ o ∈ row, o < p.k) {h : Hm} : F_xafter_3 [ePl p, eT ps, eT row] h = .ok (eT (PF.after p ps row)) h := by
  refine fr_ok (F := runF 4 m_xafter) (runF_rt0 (h := []) ?_ low_eT) (by simp [sSeq, sSet, sRet, sIf, sNil, sExpr, sAsg, sPar, m1, m2, mL, mB, mVar, mC, aNil, aCons, aStar, Res.bind, gN, gTn, gCons, gNil, mTup, mLst, mNewL, fTup, fLst, mOrT, mAndT, mNotT, mTr, mAnd, mOr, mIf, mChain, fIB, fII, truth, fNot, nox, f1, f2, ewipe, LIM, D.lows, low_ePl, low_eT]) rfl h
  show m_xafter [some (ePl p), some (eT ps), some (eT row), none] [] = _
  have h6 : p.n ≤ 6 := ok.n6
  have f := forL_fold (t := gN 3) (en := N) (body := sSet 1 (mL F_xled_3 (aCons (mVar 0) (aCons (mVar 1) (aCons (mVar 3) (aNil)))))) (fun s : List Nat × Option D => [some (ePl p), some (eT s.1), some (eT row), s.2]) (fun _ => []) (fun s o => (PF.led p s.1 o, some (N o))) (fun s => (∀ x ∈ s.1, x < p.n) ∧ s.1.Pairwise (· < ·)) (xs := row) (s := (ps, none)) (by
    rintro ⟨acc, z⟩ o hx ⟨h1, h2⟩
    have hl := PF.asc_len h2 h1
    refine ⟨⟨PF.led_lt ok h1 (ho o hx), PF.asc_led⟩, _, rfl, ?_⟩
    have e := q_led ok h1 (by omega) (ho o hx) (h := [])
    simp [sSeq, sSet, sRet, sIf, sNil, sExpr, sAsg, sPar, m1, m2, mL, mB, mVar, mC, aNil, aCons, aStar, Res.bind, gN, gTn, gCons, gNil, mTup, mLst, mNewL, fTup, fLst, mOrT, mAndT, mNotT, mTr, mAnd, mOr, mIf, mChain, fIB, fII, truth, fNot, nox, f1, f2, ewipe, LIM, e]) ⟨hp, hl⟩
  have hfold : ∀ (l : List Nat) (s : List Nat × Option D), (l.foldl (fun s o => (PF.led p s.1 o, some (N o))) s).1 = PF.after p s.1 l := by
    intro l
    induction l with
    | nil => intro s; rfl
    | cons o l ih => intro s; rw [List.foldl_cons, ih]; rfl
  unfold m_xafter
  refine (seq_nx ((sFor_ok (iAny_t (xs := row.map N) (h1 := []) rfl)).trans f)).trans ?_
  rw [← hfold row (ps, none)]
  rfl
end Law
end MP
end L2

set_option Elab.async false
set_option linter.all false
set_option maxRecDepth 100000
set_option maxHeartbeats 4000000
namespace L2
namespace MP
namespace Law
open PySem PySem.Spec PyProof.Rows
/-! ### news -/
/-- the classes of news -/
def NewsC (c : Nat) : Prop := c = 2 ∨ c = 3 ∨ c = 4
theorem p_late {c a b : Nat} (hc : NewsC c) {m : ME} {e : Ev} {h h1 : Hm} (ha : m e h = .ok (eN c a b) h1) : mProp (TBL.f P_late) m e h = .ok (N a) h1 := by
  have e2 : F_xNewsDlate_1 [eN c a b] h1 = .ok (N a) h1 := by
    refine runF_rt (len := 1) (m := m_xNewsDlate) (as := [eN c a b]) ?_
    show m_xNewsDlate [some (eN c a b)] h1 = _
    have e3 : fFld .numbers (eN c a b) h1 = .ok (.tup [N a, N b]) h1 := by rcases hc with rfl | rfl | rfl <;> rfl
    have e4 : fIxD (.tup [N a, N b]) (.int 0) h1 = .ok (N a) h1 := rfl
    simp [sSeq, sSet, sRet, sIf, sNil, sExpr, sAsg, sPar, m1, m2, mL, mB, mVar, mC, aNil, aCons, aStar, Res.bind, gN, gTn, gCons, gNil, mTup, mLst, mNewL, fTup, fLst, mOrT, mAndT, mNotT, mTr, mAnd, mOr, mIf, mChain, fIB, fII, truth, fNot, nox, f1, f2, ewipe, LIM, m_xNewsDlate, e3, e4]
  have e1 : (clsOf h1 (eN c a b)).bind (TBL.f P_late) = some F_xNewsDlate_1 := by rcases hc with rfl | rfl | rfl <;> rfl
  simp only [mProp, ha, Res.bind, e1, e2, nox]
theorem p_lost {c a b : Nat} (hc : NewsC c) {m : ME} {e : Ev} {h h1 : Hm} (ha : m e h = .ok (eN c a b) h1) : mProp (TBL.f P_lost) m e h = .ok (N b) h1 := by
  have e2 : F_xNewsDlost_1 [eN c a b] h1 = .ok (N b) h1 := by
    refine runF_rt (len := 1) (m := m_xNewsDlost) (as := [eN c a b]) ?_
    show m_xNewsDlost [some (eN c a b)] h1 = _
    have e3 : fFld .numbers (eN c a b) h1 = .ok (.tup [N a, N b]) h1 := by rcases hc with rfl | rfl | rfl <;> rfl
    have e4 : fIxD (.tup [N a, N b]) (.int 1) h1 = .ok (N b) h1 := rfl
    simp [sSeq, sSet, sRet, sIf, sNil, sExpr, sAsg, sPar, m1, m2, mL, mB, mVar, mC, aNil, aCons, aStar, Res.bind, gN, gTn, gCons, gNil, mTup, mLst, mNewL, fTup, fLst, mOrT, mAndT, mNotT, mTr, mAnd, mOr, mIf, mChain, fIB, fII, truth, fNot, nox, f1, f2, ewipe, LIM, m_xNewsDlost, e3, e4]
  have e1 : (clsOf h1 (eN c a b)).bind (TBL.f P_lost) = some F_xNewsDlost_1 := by rcases hc with rfl | rfl | rfl <;> rfl
  simp only [mProp, ha, Res.bind, e1, e2, nox]
theorem q_need_situation {p : PF.Pl} (ok : p.Ok) {m : Nat} (hm : m ≤ 8) {s : PF.Sit} (hs : PF.SOk p m s) {h : Hm} : F_xneed_situation_3 [ePl p, eS s, N m] h = .ok .non h := by
  refine runF_nx (len := 3) (m := m_xneed_situation) (as := [ePl p, eS s, N m]) (e' := [some (ePl p), some (eS s), some (N m)]) ?_
  show m_xneed_situation [some (ePl p), some (eS s), some (N m)] h = _
  simp [sSeq, sSet, sRet, sIf, sNil, sExpr, sAsg, sPar, m1, m2, mL, mB, mVar, mC, aNil, aCons, aStar, Res.bind, gN, gTn, gCons, gNil, mTup, mLst, mNewL, fTup, fLst, mOrT, mAndT, mNotT, mTr, mAnd, mOr, mIf, mChain, fIB, fII, truth, fNot, nox, f1, f2, ewipe, LIM, m_xneed_situation, q_situation ok hm hs]
theorem q_due {p : PF.Pl} (ok : p.Ok) {c a b : Nat} (hc : NewsC c) {s : PF.Sit} (h1 : s.1 < p.n) (h2 : ∀ o ∈ s.2, o < p.k) {h : Hm} : F_xdue_in_3 [eN c a b, ePl p, eS s] h = .ok (.tup [eT (PF.dueIn a p s).1, eT (PF.dueIn a p s).2]) h := by
  refine fr_ok (F := runF 6 m_xdue_in) (runF_rt0 (h := []) ?_ (by simp [sSeq, sSet, sRet, sIf, sNil, sExpr, sAsg, sPar, m1, m2, mL, mB, mVar, mC, aNil, aCons, aStar, Res.bind, gN, gTn, gCons, gNil, mTup, mLst, mNewL, fTup, fLst, mOrT, mAndT, mNotT, mTr, mAnd, mOr, mIf, mChain, fIB, fII, truth, fNot, nox, f1, f2, ewipe, LIM, D.low, D.lows, low_eT])) (by simp [sSeq, sSet, sRet, sIf, sNil, sExpr, sAsg, sPar, m1, m2, mL, mB, mVar, mC, aNil, aCons, aStar, Res.bind, gN, gTn, gCons, gNil, mTup, mLst, mNewL, fTup, fLst, mOrT, mAndT, mNotT, mTr, mAnd, mOr, mIf, mChain, fIB, fII, truth, fNot, nox, f1, f2, ewipe, LIM, D.lows, low_eN, low_ePl, low_eS]) rfl h
  show m_xdue_in [some (eN c a b), some (ePl p), some (eS s), none, none, none] [] = _
  have e0 : sAsg (mVar 2) (gTn 2 (gCons (gN 3) (gCons (gN 4) (gNil)))) [some (eN c a b), some (ePl p), some (eS s), none, none, none] [] = .nx [some (eN c a b), some (ePl p), some (eS s), some (N s.1), some (eT s.2), none] [] := rfl
  have e1 := p_late hc (a := a) (b := b) (m := mVar 0) (e := [some (eN c a b), some (ePl p), some (eS s), some (N s.1), some (eT s.2), none]) (h := []) (h1 := []) rfl
  have e2 : sSet 5 (m2 fSub (mL (f1 fLen) (aCons (mVar 4) (aNil))) (mProp (TBL.f P_late) (mVar 0))) [some (eN c a b), some (ePl p), some (eS s), some (N s.1), some (eT s.2), none] [] = .nx [some (eN c a b), some (ePl p), some (eS s), some (N s.1), some (eT s.2), some (.int ((s.2.length : Int) - (a : Int)))] [] := by
    simp [sSeq, sSet, sRet, sIf, sNil, sExpr, sAsg, sPar, m1, m2, mL, mB, mVar, mC, aNil, aCons, aStar, Res.bind, gN, gTn, gCons, gNil, mTup, mLst, mNewL, fTup, fLst, mOrT, mAndT, mNotT, mTr, mAnd, mOr, mIf, mChain, fIB, fII, truth, fNot, nox, f1, f2, ewipe, LIM, e1, fLen_eT]
  unfold m_xdue_in
  refine (seq_nx e0).trans ((seq_nx e2).trans ?_)
  unfold PF.dueIn
  by_cases hq : s.2.length < a + 1
  · rw [if_pos hq]
    have d : decide (((s.2.length : Int) - (a : Int)) < 1) = true := decide_eq_true (by omega)
    simp only [sSeq, sIf, mB, m2, mVar, mC, Res.bind, fIB, d, sRet, mTup, mL, aCons, aNil, fTup, List.getElem?_cons_succ, List.getElem?_cons_zero, List.length_nil, List.length_cons]
    rfl
  · rw [if_neg hq]
    have d2 : ((s.2.length : Int) - (a : Int)) = ((s.2.length - a : Nat) : Int) := by omega
    rw [d2]
    have d : decide (((s.2.length - a : Nat) : Int) < 1) = false := decide_eq_false (by omega)
    have e3 := q_after ok (ps := [s.1]) (row := s.2.take (s.2.length - a)) (by simpa using h1) (by simp) (fun o ho => h2 o (List.mem_of_mem_take ho)) (h := [])
    have e4 : fTup [N s.1] [] = .ok (eT [s.1]) [] := rfl
    simp only [sSeq, sIf, mB, m2, mVar, mC, Res.bind, fIB, d, sNil, sRet, mTup, mL, aCons, aNil, List.getElem?_cons_succ, List.getElem?_cons_zero, mSl, oNone, oSome, fSl_take, fSl_drop, e4, e3]
    rfl
theorem q_next {p : PF.Pl} (ok : p.Ok) {c a b : Nat} (hc : NewsC c) (hab : a + b ≤ 4) {s : PF.Sit} {o : Nat} (hs : PF.SOk p (a + b) s) (ho : o < p.k) {h : Hm} : F_xnext_in_4 [eN c a b, ePl p, eS s, N o] h = .ok (eSs (PF.nextIn a b p s o)) h := by
  refine fr_ok (F := runF 11 m_xnext_in) ?_ (by simp [sSeq, sSet, sRet, sIf, sNil, sExpr, sAsg, sPar, m1, m2, mL, mB, mVar, mC, aNil, aCons, aStar, Res.bind, gN, gTn, gCons, gNil, mTup, mLst, mNewL, fTup, fLst, mOrT, mAndT, mNotT, mTr, mAnd, mOr, mIf, mChain, fIB, fII, truth, fNot, nox, f1, f2, ewipe, LIM, D.lows, low_eN, low_ePl, low_eS, low_N]) rfl h
  have hrow : ∀ x ∈ s.2 ++ [o], x < p.k := PF.row1 hs ho
  have hlen : (s.2 ++ [o]).length = s.2.length + 1 := by simp
  have hsl := hs.len
  suffices H : ∃ hx, m_xnext_in [some (eN c a b), some (ePl p), some (eS s), some (N o), none, none, none, none, none, none, none] [] = .rt (eSs (PF.nextIn a b p s o)) hx by
    obtain ⟨hx, H⟩ := H
    exact runF_rt0 (len := 11) (as := [eN c a b, ePl p, eS s, N o]) H low_eSs
  have e0 : sAsg (mVar 2) (gTn 2 (gCons (gN 4) (gCons (gN 5) (gNil)))) [some (eN c a b), some (ePl p), some (eS s), some (N o), none, none, none, none, none, none, none] [] = .nx [some (eN c a b), some (ePl p), some (eS s), some (N o), some (N s.1), some (eT s.2), none, none, none, none, none] [] := rfl
  have eapp : s.2.map N ++ [N o] = (s.2 ++ [o]).map N := by simp
  have e1 : sSet 6 (mTup (aStar (mVar 5) (aCons (mVar 3) (aNil)))) [some (eN c a b), some (ePl p), some (eS s), some (N o), some (N s.1), some (eT s.2), none, none, none, none, none] [] = .nx [some (eN c a b), some (ePl p), some (eS s), some (N o), some (N s.1), some (eT s.2), some (eT (s.2 ++ [o])), none, none, none, none] [] := by
    have q : seqOf (eT s.2) = some (s.2.map N) := rfl
    have q2 : fTup (s.2.map N ++ [N o]) [] = .ok (eT (s.2 ++ [o])) [] := by
      unfold fTup
      rw [if_pos (by unfold LIM; simp; omega), eapp]; rfl
    simp only [sSet, mTup, mL, aStar, aCons, aNil, mVar, Res.bind, List.getElem?_cons_succ, List.getElem?_cons_zero, q, q2]
    rfl
  have ed := q_due ok hc (a := a) (b := b) (s := (s.1, s.2 ++ [o])) hs.at_ hrow (h := [])
  have e2 : sAsg (mL F_xdue_in_3 (aCons (mVar 0) (aCons (mVar 1) (aCons (mTup (aCons (mVar 4) (aCons (mVar 6) (aNil)))) (aNil))))) (gTn 2 (gCons (gN 7) (gCons (gN 8) (gNil)))) [some (eN c a b), some (ePl p), some (eS s), some (N o), some (N s.1), some (eT s.2), some (eT (s.2 ++ [o])), none, none, none, none] [] = .nx [some (eN c a b), some (ePl p), some (eS s), some (N o), some (N s.1), some (eT s.2), some (eT (s.2 ++ [o])), some (eT (PF.dueIn a p (s.1, s.2 ++ [o])).1), some (eT (PF.dueIn a p (s.1, s.2 ++ [o])).2), none, none] [] := by
    have q : fTup [N s.1, eT (s.2 ++ [o])] [] = .ok (eS (s.1, s.2 ++ [o])) [] := rfl
    simp only [sAsg, mL, aCons, aNil, mVar, Res.bind, mTup, List.getElem?_cons_succ, List.getElem?_cons_zero, q, ed]
    rfl
  unfold m_xnext_in
  have hda := PF.asc_len (n := p.n) (l := (PF.dueIn a p (s.1, s.2 ++ [o])).1) (by
    unfold PF.dueIn
    split
    · simp
    · exact PF.asc_after (by simp)) (by
    unfold PF.dueIn
    split
    · simp
    · exact PF.after_lt ok (by simpa using hs.at_) (fun x hx => hrow x (List.mem_of_mem_take hx)))
  have h6 : p.n ≤ 6 := ok.n6
  unfold PF.nextIn
  generalize PF.dueIn a p (s.1, s.2 ++ [o]) = dd at e2 hda ⊢
  rw [seq_nx e0, seq_nx e1, seq_nx e2]
  have e3 : m2 fEq (mVar 7) (mTup aNil) [some (eN c a b), some (ePl p), some (eS s), some (N o), some (N s.1), some (eT s.2), some (eT (s.2 ++ [o])), some (eT dd.1), some (eT dd.2), none, none] [] = .ok (.bl (dd.1 == [])) [] := by
    have q : fTup [] [] = .ok (eT []) [] := rfl
    simp only [m2, mVar, mTup, mL, aNil, Res.bind, List.getElem?_cons_succ, List.getElem?_cons_zero, q, fEq_T]
  by_cases hq : dd.1 = []
  · rw [if_pos hq]
    have q : fTup [N s.1, eT (s.2 ++ [o])] [] = .ok (eS (s.1, s.2 ++ [o])) [] := rfl
    have q2 : fTup [eS (s.1, s.2 ++ [o])] [] = .ok (eSs [(s.1, s.2 ++ [o])]) [] := rfl
    have q3 : (dd.1 == []) = true := by simpa using hq
    have e3' : mB (m2 fEq (mVar 7) (mTup aNil)) [some (eN c a b), some (ePl p), some (eS s), some (N o), some (N s.1), some (eT s.2), some (eT (s.2 ++ [o])), some (eT dd.1), some (eT dd.2), none, none] [] = .ok true [] := by simp only [mB, e3, q3, Res.bind]
    have e4 : sRet (mTup (aCons (mTup (aCons (mVar 4) (aCons (mVar 6) (aNil)))) (aNil))) [some (eN c a b), some (ePl p), some (eS s), some (N o), some (N s.1), some (eT s.2), some (eT (s.2 ++ [o])), some (eT dd.1), some (eT dd.2), none, none] [] = .rt (eSs [(s.1, s.2 ++ [o])]) [] := by
      simp only [sRet, mTup, mL, aCons, aNil, Res.bind, mVar, List.getElem?_cons_succ, List.getElem?_cons_zero, q, q2]
    refine ⟨[], ?_⟩
    simp only [sSeq, sIf, e3', e4]
  · rw [if_neg hq]
    have q3 : (dd.1 == []) = false := by simpa using hq
    have hne : ∀ r : List PF.Sit, dd.1.map (fun y => (y, dd.2)) ++ r ≠ [] := by
      intro r
      cases hdd : dd.1 with
      | nil => exact absurd hdd hq
      | cons x xs => simp
    have e4 : sSet 9 (mCompN (iAny (mVar 7)) (gN 10) (tYesM) (mTup (aCons (mVar 10) (aCons (mVar 8) (aNil)))) [10]) [some (eN c a b), some (ePl p), some (eS s), some (N o), some (N s.1), some (eT s.2), some (eT (s.2 ++ [o])), some (eT dd.1), some (eT dd.2), none, none] [] = .nx [some (eN c a b), some (ePl p), some (eS s), some (N o), some (N s.1), some (eT s.2), some (eT (s.2 ++ [o])), some (eT dd.1), some (eT dd.2), some (.loc 0), none] [some (.lst ((dd.1.map fun y => (y, dd.2)).map eS))] := by
      have cc := compN_map (mi := iAny (mVar 7)) (t := gN 10) (elt := mTup (aCons (mVar 10) (aCons (mVar 8) (aNil)))) (vs := [10]) (e := [some (eN c a b), some (ePl p), some (eS s), some (N o), some (N s.1), some (eT s.2), some (eT (s.2 ++ [o])), some (eT dd.1), some (eT dd.2), none, none]) (h := []) (h1 := []) (xs := dd.1) (en := N) (f := fun y => eS (y, dd.2)) rfl (by unfold LIM; omega) (fun x hx => ⟨_, rfl, rfl⟩)
      simp only [sSet, cc]
      simp [sSeq, sSet, sRet, sIf, sNil, sExpr, sAsg, sPar, m1, m2, mL, mB, mVar, mC, aNil, aCons, aStar, Res.bind, gN, gTn, gCons, gNil, mTup, mLst, mNewL, fTup, fLst, mOrT, mAndT, mNotT, mTr, mAnd, mOr, mIf, mChain, fIB, fII, truth, fNot, nox, f1, f2, ewipe, LIM, Function.comp_def]
    rw [show ((dd.1 == []) = false) from q3] at e3
    have e3' : sIf (mB (m2 fEq (mVar 7) (mTup (aNil)))) (sRet (mTup (aCons (mTup (aCons (mVar 4) (aCons (mVar 6) (aNil)))) (aNil)))) (sNil) [some (eN c a b), some (ePl p), some (eS s), some (N o), some (N s.1), some (eT s.2), some (eT (s.2 ++ [o])), some (eT dd.1), some (eT dd.2), none, none] [] = .nx [some (eN c a b), some (ePl p), some (eS s), some (N o), some (N s.1), some (eT s.2), some (eT (s.2 ++ [o])), some (eT dd.1), some (eT dd.2), none, none] [] := by
      simp only [sIf, mB, e3, Res.bind, sNil]
    rw [seq_nx e3', seq_nx e4]
    have p1 := p_late hc (a := a) (b := b) (m := mVar 0) (e := [some (eN c a b), some (ePl p), some (eS s), some (N o), some (N s.1), some (eT s.2), some (eT (s.2 ++ [o])), some (eT dd.1), some (eT dd.2), some (.loc 0), none]) (h := [some (.lst ((dd.1.map fun y => (y, dd.2)).map eS))]) rfl
    have p2 := p_lost hc (a := a) (b := b) (m := mVar 0) (e := [some (eN c a b), some (ePl p), some (eS s), some (N o), some (N s.1), some (eT s.2), some (eT (s.2 ++ [o])), some (eT dd.1), some (eT dd.2), some (.loc 0), none]) (h := [some (.lst ((dd.1.map fun y => (y, dd.2)).map eS))]) rfl
    have c1 : mB (m2 fLe (mL (f1 fLen) (aCons (mVar 6) (aNil))) (m2 fAddG (mProp (TBL.f P_late) (mVar 0)) (mProp (TBL.f P_lost) (mVar 0)))) [some (eN c a b), some (ePl p), some (eS s), some (N o), some (N s.1), some (eT s.2), some (eT (s.2 ++ [o])), some (eT dd.1), some (eT dd.2), some (.loc 0), none] [some (.lst ((dd.1.map fun y => (y, dd.2)).map eS))] = .ok (decide ((s.2 ++ [o]).length ≤ a + b)) [some (.lst ((dd.1.map fun y => (y, dd.2)).map eS))] := by
      have q : decide (((s.2 ++ [o]).length : Int) ≤ (a : Int) + (b : Int)) = decide ((s.2 ++ [o]).length ≤ a + b) := by
        rw [decide_eq_decide]; omega
      simp only [mB, m2, mL, f1, aCons, aNil, mVar, Res.bind, List.getElem?_cons_succ, List.getElem?_cons_zero, fLen_eT, p1, p2, fAddG_I, fIB, q]
    have last : ∀ (e : Ev) (l : List PF.Sit), l ≠ [] → l.length ≤ 100 → e[9]? = some (some (.loc 0)) → sRet (mL (f1 fTupOf) (aCons (mL fSortA (aCons (mVar 9) (aNil))) (aNil))) e [some (.lst (l.map eS))] = .rt (eSs (PF.sortS l)) [some (.lst (l.map eS))] := by
      intro e l hl hl2 he
      have q := fSortA_S (x := .loc 0) (h := [some (.lst (l.map eS))]) hl (by unfold LIM; omega) rfl rfl rfl
      simp only [sRet, mL, aCons, aNil, mVar, he, Res.bind, q, f1]
      rfl
    by_cases hk : (s.2 ++ [o]).length ≤ a + b
    · rw [if_pos hk]
      rw [decide_eq_true hk] at c1
      have e5 : mBM isListD fApp (mVar 9) (aCons (mTup (aCons (mVar 4) (aCons (mVar 6) (aNil)))) (aNil)) [some (eN c a b), some (ePl p), some (eS s), some (N o), some (N s.1), some (eT s.2), some (eT (s.2 ++ [o])), some (eT dd.1), some (eT dd.2), some (.loc 0), none] [some (.lst ((dd.1.map fun y => (y, dd.2)).map eS))] = .ok .non [some (.lst ((dd.1.map (fun y => (y, dd.2)) ++ [(s.1, s.2 ++ [o])]).map eS))] := by
        refine bm_list (x := eS (s.1, s.2 ++ [o])) (h1 := [some (.lst ((dd.1.map fun y => (y, dd.2)).map eS))]) (h2 := [some (.lst ((dd.1.map fun y => (y, dd.2)).map eS))]) rfl rfl rfl ?_
        refine (app_loc (l := 0) (xs := (dd.1.map fun y => (y, dd.2)).map eS) rfl (by unfold LIM; simp; omega)).trans ?_
        rw [List.map_append]; rfl
      have e6 : sIf (mB (m2 fLe (mL (f1 fLen) (aCons (mVar 6) (aNil))) (m2 fAddG (mProp (TBL.f P_late) (mVar 0)) (mProp (TBL.f P_lost) (mVar 0))))) (sExpr (mBM isListD fApp (mVar 9) (aCons (mTup (aCons (mVar 4) (aCons (mVar 6) (aNil)))) (aNil)))) (sNil) [some (eN c a b), some (ePl p), some (eS s), some (N o), some (N s.1), some (eT s.2), some (eT (s.2 ++ [o])), some (eT dd.1), some (eT dd.2), some (.loc 0), none] [some (.lst ((dd.1.map fun y => (y, dd.2)).map eS))] = .nx [some (eN c a b), some (ePl p), some (eS s), some (N o), some (N s.1), some (eT s.2), some (eT (s.2 ++ [o])), some (eT dd.1), some (eT dd.2), some (.loc 0), none] [some (.lst ((dd.1.map (fun y => (y, dd.2)) ++ [(s.1, s.2 ++ [o])]).map eS))] := by
        simp only [sIf, c1, sExpr, e5]
      rw [seq_nx e6]
      exact ⟨_, last _ _ (hne _) (by simp; omega) rfl⟩
    · rw [if_neg hk]
      rw [decide_eq_false hk] at c1
      have e6 : sIf (mB (m2 fLe (mL (f1 fLen) (aCons (mVar 6) (aNil))) (m2 fAddG (mProp (TBL.f P_late) (mVar 0)) (mProp (TBL.f P_lost) (mVar 0))))) (sExpr (mBM isListD fApp (mVar 9) (aCons (mTup (aCons (mVar 4) (aCons (mVar 6) (aNil)))) (aNil)))) (sNil) [some (eN c a b), some (ePl p), some (eS s), some (N o), some (N s.1), some (eT s.2), some (eT (s.2 ++ [o])), some (eT dd.1), some (eT dd.2), some (.loc 0), none] [some (.lst ((dd.1.map fun y => (y, dd.2)).map eS))] = .nx [some (eN c a b), some (ePl p), some (eS s), some (N o), some (N s.1), some (eT s.2), some (eT (s.2 ++ [o])), some (eT dd.1), some (eT dd.2), some (.loc 0), none] [some (.lst ((dd.1.map fun y => (y, dd.2)).map eS))] := by
        simp only [sIf, c1, sNil]
      rw [seq_nx e6]
      exact ⟨_, by
        rw [List.append_nil]
        exact last _ _ (by have := hne []; rwa [List.append_nil] at this) (by simp; omega) rfl⟩
end Law
end MP
end L2

set_option Elab.async false
set_option linter.all false
set_option maxRecDepth 100000
set_option maxHeartbeats 4000000
namespace L2
namespace MP
namespace Law
open PySem PySem.Spec PyProof.Rows
/-! ### steering without news -/
def eBs (l : List PF.Bel) : D := .lst (l.map eT)
def kB (W : List (PF.Bel × List PF.Bel)) : List (D × D) := W.map fun z => (eT z.1, eBs z.2)
def eB (W : List (PF.Bel × List PF.Bel)) : D := .dct (kB W)
def kL (L : List (PF.Bel × Nat)) : List (D × D) := L.map fun z => (eT z.1, N z.2)
def eLn (L : List (PF.Bel × Nat)) : D := .dct (kL L)
theorem low_eBs {n : Nat} {l : List PF.Bel} : D.low n (eBs l) = true := lows_map (fun _ => low_eT) l
theorem low_eB {n : Nat} {W : List (PF.Bel × List PF.Bel)} : D.low n (eB W) = true := lowk_map (fun _ => low_eT) (fun _ => low_eBs) W
theorem low_eLn {n : Nat} {L : List (PF.Bel × Nat)} : D.low n (eLn L) = true := lowk_map (fun _ => low_eT) (fun _ => rfl) L
theorem plains_T {l : List PF.Bel} {n : Nat} : D.plains (l.map eT) (n + 1) = true := plains_map (fun _ => plain_eT) l
theorem keys_kB {W : List (PF.Bel × List PF.Bel)} : (kB W).map (·.1) = (W.map (·.1)).map eT := by
  unfold kB
  rw [List.map_map, List.map_map]; rfl
/-! ### the beliefs that come up -/
abbrev bwC : MT := mB (m2 fNe (mVar 3) (mLst (aNil)))
abbrev bE (p : PF.Pl) (B0 : PF.Bel) (x y : Option D) : Ev := [some (ePl p), some (eT B0), some (.loc 0), some (.loc 1), x, y]
abbrev bH (W : List (PF.Bel × List PF.Bel)) (ws : List PF.Bel) : Hm := [some (.dct (kB W)), some (.lst (ws.map eT))]
section
variable {p : PF.Pl} (ok : p.Ok) {B0 : PF.Bel}
theorem bw_c {ws : List PF.Bel} {W : List (PF.Bel × List PF.Bel)} {x y : Option D} : bwC (bE p B0 x y) (bH W ws) = .ok (!ws.isEmpty) (bH W ws) := by
  have e1 := ne_nil_loc (h := bH W ws) (l := 1) (xs := ws.map eT) rfl (plains_T (n := 58))
  refine tB ((tM2 (tV rfl) tLst0 e1).trans ?_)
  cases ws <;> rfl
theorem bok_len {B : PF.Bel} (h : PF.BOk p B) (ok : p.Ok) : B.length ≤ 6 := Nat.le_trans (PF.asc_len h.asc h.lt) ok.n6
include ok
theorem bw_new {one : PF.Bel} {ws : List PF.Bel} {W : List (PF.Bel × List PF.Bel)} {y : Option D} (h1 : PF.BOk p one) (hn : PF.hasK W one = false) (hl : ws.length ≤ 2200000) (hW : W.length < 100001) :
    sSeq (sPut (mVar 2) (mVar 4) (mComp (iRange1 (mProp (TBL.f P_orders) (mVar 0))) (gN 5) (tYesM) (mL F_xled_3 (aCons (mVar 0) (aCons (mVar 4) (aCons (mVar 5) (aNil))))) [5])) (sExpr (mBM isListD fExtG (mVar 3) (aCons (m2 fIxD (mVar 2) (mVar 4)) (aNil)))) (bE p B0 (some (eT one)) y) (bH W ws) =
      .nx (bE p B0 (some (eT one)) y) (bH (W ++ [(one, PF.bouts p one)]) (ws ++ PF.bouts p one)) := by
  have k3 := ok.k3
  have hor := p_orders ok (a := mVar 0) (e := bE p B0 (some (eT one)) y) (h := bH W ws) (h1 := bH W ws) rfl
  have cc := comp_map (mi := iRange1 (mProp (TBL.f P_orders) (mVar 0))) (t := gN 5) (elt := mL F_xled_3 (aCons (mVar 0) (aCons (mVar 4) (aCons (mVar 5) (aNil))))) (vs := [5]) (e := bE p B0 (some (eT one)) y) (h := bH W ws) (h1 := bH W ws) (xs := List.range p.k) (en := N) (f := fun o => eT (PF.led p one o)) (iRange_N hor (by omega)) (by unfold LIM; simp; omega) (fun o ho => by
    have e := q_led ok h1.lt (bok_len h1 ok) (o := o) (by simpa using ho) (h := bH W ws)
    exact ⟨bE p B0 (some (eT one)) (some (N o)), rfl, tL3 (tV rfl) (tV rfl) (tV rfl) e⟩)
  have ev : D.lst ((List.range p.k).map fun o => eT (PF.led p one o)) = eBs (PF.bouts p one) := by
    unfold eBs PF.bouts
    rw [List.map_map]; rfl
  rw [ev] at cc
  have ep := fPut_K (h := bH W ws) (ek := eT) (ev := eBs) (fun _ _ => eqv_eT) (s := one) (v := PF.bouts p one) (W := W) (l := 0) rfl (fun i e => by cases e) (kdepth_eT (by omega)) rfl (by unfold LIM; omega) hn
  have e1 : sPut (mVar 2) (mVar 4) (mComp (iRange1 (mProp (TBL.f P_orders) (mVar 0))) (gN 5) (tYesM) (mL F_xled_3 (aCons (mVar 0) (aCons (mVar 4) (aCons (mVar 5) (aNil))))) [5]) (bE p B0 (some (eT one)) y) (bH W ws) = .nx (bE p B0 (some (eT one)) y) (bH (W ++ [(one, PF.bouts p one)]) ws) := by
    simp only [sPut, cc, mVar, List.getElem?_cons_succ, List.getElem?_cons_zero, ep]
    rfl
  have elook : (W ++ [(one, PF.bouts p one)]).lookup one = some (PF.bouts p one) := by
    rw [PF.lookup_app]
    unfold PF.hasK at hn
    cases hq : W.lookup one with
    | some v => rw [hq] at hn; cases hn
    | none => simp
  have ei := fIx_K (h := bH (W ++ [(one, PF.bouts p one)]) ws) (ek := eT) (ev := eBs) (fun _ _ => eqv_eT) (s := one) (v := PF.bouts p one) (W := W ++ [(one, PF.bouts p one)]) (c := .loc 0) rfl (kdepth_eT (by omega)) rfl elook
  have ex := extL_loc (h := bH (W ++ [(one, PF.bouts p one)]) ws) (l := 1) (xs := ws.map eT) (ys := (PF.bouts p one).map eT) rfl (by unfold LIM; simp [PF.bouts]; omega)
  have eb := bm_list (F := fExtG) (o := mVar 3) (a := m2 fIxD (mVar 2) (mVar 4)) (e := bE p B0 (some (eT one)) y) (h := bH (W ++ [(one, PF.bouts p one)]) ws) (h1 := bH (W ++ [(one, PF.bouts p one)]) ws) (h2 := bH (W ++ [(one, PF.bouts p one)]) ws) (d := .loc 1) (x := eBs (PF.bouts p one)) rfl rfl (tM2 (tV rfl) (tV rfl) ei) ex
  refine (seq_nx e1).trans ((tExpr eb).trans ?_)
  rw [← List.map_append]
  rfl
end
end Law
end MP
end L2

set_option Elab.async false
set_option linter.all false
set_option maxRecDepth 100000
set_option maxHeartbeats 4000000
namespace L2
namespace MP
namespace Law
open PySem PySem.Spec PyProof.Rows
section
variable {p : PF.Pl} (ok : p.Ok)
include ok
theorem last_B {l : List PF.Bel} {B : PF.Bel} {h : Hm} {a : Nat} (hg : h.get a = some (.lst ((l ++ [B]).map eT))) : fIxD (.loc a) (.int (-1)) h = .ok (eT B) h := by
  have h1 : L2.ixN ((l ++ [B]).map eT).length (-1) = some l.length := by
    unfold L2.ixN
    simp
    omega
  have h2 : L2.atI ((l ++ [B]).map eT) (-1) = some (eT B) := by
    unfold L2.atI
    rw [h1]
    simp
  simp only [fIxD, rdD, hg, fIx, rdS, rdL, h2]
theorem trail_last {B : PF.Bel} {row : List Nat} : ∃ l, PF.trail p B row = l ++ [PF.after p B row] := by
  unfold PF.trail
  rw [List.range_succ, List.map_append]
  exact ⟨_, by rw [List.map_cons, List.map_nil, List.take_of_length_le (Nat.le_refl _)]⟩
theorem trail_bok {B : PF.Bel} {row : List Nat} (hB : PF.BOk p B) (hr : ∀ o ∈ row, o < p.k) : ∀ C ∈ PF.trail p B row, PF.BOk p C := by
  intro C hC
  unfold PF.trail at hC
  obtain ⟨i, _, rfl⟩ := List.mem_map.mp hC
  exact ⟨PF.asc_after hB.asc, PF.after_lt ok hB.lt fun o ho => hr o (List.mem_of_mem_take ho)⟩
end
end Law
end MP
end L2

set_option Elab.async false
set_option linter.all false
set_option maxRecDepth 1000000
set_option maxHeartbeats 4000000
namespace L2
namespace MP
namespace Law
/-! ### the pen -/
abbrev pn (a b c : Int) : Option MO := some (.lst [.int a, .int b, .int c])
theorem fin1_same {n : Nat} {v : D} {h : Hm} (hl : h.length ≤ n) : fin1 n v h = .ok v h := by
  unfold fin1
  rw [List.take_of_length_le hl]
  split <;> rfl
theorem Hm.get_setS {h : Hm} {l : Nat} {o : Option MO} {m : MO} (hl : h.get l = some m) : Hm.get (h.set l o) l = o := by
  rw [Hm.get_set (Hm.get_lt hl), if_pos rfl]
theorem ix0 {e : Ev} {h : Hm} {l : Nat} {a b c : Int} (he : e[0]? = some (some (.loc l))) (hl : h.get l = pn a b c) : m2 fIxD (mVar 0) (mC (.int 0)) e h = .ok (.int a) h := by
  simp [m2, mVar, he, mC, Res.bind, fIxD, rdD, hl, fIx, rdS, rdL, L2.atI, L2.ixN]
theorem ix1 {e : Ev} {h : Hm} {l : Nat} {a b c : Int} (he : e[0]? = some (some (.loc l))) (hl : h.get l = pn a b c) : m2 fIxD (mVar 0) (mC (.int 1)) e h = .ok (.int b) h := by
  simp [m2, mVar, he, mC, Res.bind, fIxD, rdD, hl, fIx, rdS, rdL, L2.atI, L2.ixN]
theorem ix2 {e : Ev} {h : Hm} {l : Nat} {a b c : Int} (he : e[0]? = some (some (.loc l))) (hl : h.get l = pn a b c) : m2 fIxD (mVar 0) (mC (.int 2)) e h = .ok (.int c) h := by
  simp [m2, mVar, he, mC, Res.bind, fIxD, rdD, hl, fIx, rdS, rdL, L2.atI, L2.ixN]
theorem put0 {e : Ev} {h : Hm} {l : Nat} {a b c x : Int} {v : ME} (he : e[0]? = some (some (.loc l))) (hl : h.get l = pn a b c) (hv : v e h = .ok (.int x) h) : sPut (mVar 0) (mC (.int 0)) v e h = .nx e (h.set l (pn x b c)) := by
  simp [sPut, hv, mVar, he, mC, fPut, hl, L2.ixN]
theorem put1 {e : Ev} {h : Hm} {l : Nat} {a b c x : Int} {v : ME} (he : e[0]? = some (some (.loc l))) (hl : h.get l = pn a b c) (hv : v e h = .ok (.int x) h) : sPut (mVar 0) (mC (.int 1)) v e h = .nx e (h.set l (pn a x c)) := by
  simp [sPut, hv, mVar, he, mC, fPut, hl, L2.ixN]
theorem put2 {e : Ev} {h : Hm} {l : Nat} {a b c x : Int} {v : ME} (he : e[0]? = some (some (.loc l))) (hl : h.get l = pn a b c) (hv : v e h = .ok (.int x) h) : sPut (mVar 0) (mC (.int 2)) v e h = .nx e (h.set l (pn a b x)) := by
  simp [sPut, hv, mVar, he, mC, fPut, hl, L2.ixN]
theorem op_ii {F : Int → Int → Option Int} {x y : ME} {e : Ev} {h : Hm} {i j n : Int} (hx : x e h = .ok (.int i) h) (hy : y e h = .ok (.int j) h) (hf : F i j = some n) : m2 (fII F) x y e h = .ok (.int n) h := by
  simp [m2, hx, hy, Res.bind, fII, hf]
theorem op_mm {x y : ME} {e : Ev} {h : Hm} {i j : Int} (hx : x e h = .ok (.int i) h) (hy : y e h = .ok (.int j) h) (hf : (-18446744073709551616 < i ∧ i < 18446744073709551616) ∨ (-18446744073709551616 < j ∧ j < 18446744073709551616)) : m2 fMul x y e h = .ok (.int (i * j)) h := by
  have : iMul i j = some (i * j) := by
    unfold iMul
    rw [if_pos]
    simp only [Bool.or_eq_true, Bool.and_eq_true, decide_eq_true_eq]
    exact hf
  simp [m2, hx, hy, Res.bind, fMul, fII, this]
theorem op_aa {x y : ME} {e : Ev} {h : Hm} {i j : Int} (hx : x e h = .ok (.int i) h) (hy : y e h = .ok (.int j) h) : m2 fAddG x y e h = .ok (.int (i + j)) h := by
  simp [m2, hx, hy, Res.bind, fAddG, lstH, fAdd]
theorem c_i {i : Int} {e : Ev} {h : Hm} : mC (.int i) e h = .ok (.int i) h := rfl
theorem i_mod {i j : Int} (h : 0 < j) : iMod i j = some (i % j) := by unfold iMod; rw [if_pos h]
theorem i_div {i j : Int} (h : 0 < j) (h' : j < 1073741824) : iDiv i j = some (i / j) := by
  unfold iDiv; rw [if_pos]; simp [h, h']
theorem v_at {i : Nat} {d : D} {e : Ev} {h : Hm} (he : e[i]? = some (some d)) : mVar i e h = .ok d h := by simp [mVar, he]
theorem t_gt {x y : ME} {e : Ev} {h : Hm} {i j : Int} (hx : x e h = .ok (.int i) h) (hy : y e h = .ok (.int j) h) : mB (m2 fGt x y) e h = .ok (decide (j < i)) h := by
  simp [mB, m2, Res.bind, fIB, hx, hy]
theorem if_t {c : MT} {a b : MS} {e : Ev} {h : Hm} (hc : c e h = .ok true h) : sIf c a b e h = a e h := by simp [sIf, hc]
theorem if_f {c : MT} {a b : MS} {e : Ev} {h : Hm} (hc : c e h = .ok false h) : sIf c a b e h = b e h := by simp [sIf, hc]
theorem seq_n {a b : MS} {e e1 : Ev} {h h1 : Hm} (ha : a e h = .nx e1 h1) : sSeq a b e h = b e1 h1 := by simp [sSeq, ha]
theorem seq_r {a b : MS} {e : Ev} {h h1 : Hm} {v : D} (ha : a e h = .rt v h1) : sSeq a b e h = .rt v h1 := by simp [sSeq, ha]
theorem set_n {i : Nat} {a : ME} {e : Ev} {h h1 : Hm} {v : D} (ha : a e h = .ok v h1) : sSet i a e h = .nx (e.set i (some v)) h1 := by simp [sSet, ha]
theorem ret_n {a : ME} {e : Ev} {h h1 : Hm} {v : D} (ha : a e h = .ok v h1) : sRet a e h = .rt v h1 := by simp [sRet, ha]
theorem draw {h : Hm} {l : Nat} {a b c many : Int} (hl : h.get l = pn a b c) (ha : 0 ≤ a) (hb : 0 ≤ b) (hb2 : b ≤ 2147483647) (hm : 1 ≤ many) (hm2 : many ≤ 1000000) :
    ∃ r a' b' c', F_x_law_draw_2 [.loc l, .int many] h = .ok (.int r) (h.set l (pn a' b' c')) ∧ 0 ≤ r ∧ r < many ∧ 0 ≤ a' ∧ 0 ≤ b' ∧ b' ≤ 2147483647 := by
  have hll := Hm.get_lt hl
  have top : F_x_law_draw_2 [.loc l, .int many] h = runS h.length (m_x_law_draw [some (.loc l), some (.int many), none, none] h) := rfl
  rw [top]
  have t := t_gt (ix0 (e := [some (.loc l), some (.int many), none, none]) rfl hl) (c_i (i := 0))
  by_cases hc : 0 < a
  · rw [decide_eq_true hc] at t
    refine ⟨a % many, a / many, b, c, ?_, Int.emod_nonneg _ (by omega), Int.emod_lt_of_pos _ (by omega), Int.ediv_nonneg ha (by omega), hb, hb2⟩
    have s1 := set_n (i := 3) (op_ii (F := iMod) (ix0 (e := [some (.loc l), some (.int many), none, none]) rfl hl) (v_at (i := 1) (d := .int many) rfl) (i_mod (by omega)))
    have s2 := put0 (v := m2 (fII iDiv) (m2 fIxD (mVar 0) (mC (.int 0))) (mVar 1)) (e := [some (.loc l), some (.int many), none, some (.int (a % many))]) rfl hl (op_ii (F := iDiv) (ix0 rfl hl) (v_at (i := 1) (d := .int many) rfl) (i_div (by omega) (by omega)))
    have body : m_x_law_draw [some (.loc l), some (.int many), none, none] h = .rt (.int (a % many)) (h.set l (pn (a / many) b c)) := by
      unfold m_x_law_draw
      refine seq_r ?_
      rw [if_t t]
      refine (seq_n s1).trans ((seq_n s2).trans ?_)
      exact ret_n (v_at rfl)
    rw [body]
    exact fin1_same (by simp)
  · have ha0 : a = 0 := by omega
    subst ha0
    rw [decide_eq_false hc] at t
    let c' := c + 1
    let b' := (b * 48271 + 1009 * c' + 7) % 2147483647
    let x := (b' * b' + 69621 * b' + 11) % 2147483629
    let y := (x * x + 40014 * x) % 2147483587
    have hb0 : 0 ≤ b' := Int.emod_nonneg _ (by omega)
    have hb1 : b' < 2147483647 := Int.emod_lt_of_pos _ (by omega)
    have hx0 : 0 ≤ x := Int.emod_nonneg _ (by omega)
    have hx1 : x < 2147483629 := Int.emod_lt_of_pos _ (by omega)
    refine ⟨y / 16 % many, 0, b', c', ?_, Int.emod_nonneg _ (by omega), Int.emod_lt_of_pos _ (by omega), by omega, hb0, by omega⟩
    have h1 : Hm.get (h.set l (pn 0 b c')) l = pn 0 b c' := Hm.get_setS hl
    have s1 := put2 (v := m2 fAddG (m2 fIxD (mVar 0) (mC (.int 2))) (mC (.int 1))) (e := [some (.loc l), some (.int many), none, none]) rfl hl (op_aa (ix2 rfl hl) (c_i (i := 1)))
    have s2 := put1 (e := [some (.loc l), some (.int many), none, none]) rfl h1 (op_ii (F := iMod) (op_aa (op_aa (op_mm (ix1 (e := [some (.loc l), some (.int many), none, none]) rfl h1) (c_i (i := 48271)) (.inr (by omega))) (op_mm (c_i (i := 1009)) (ix2 (e := [some (.loc l), some (.int many), none, none]) rfl h1) (.inl (by omega)))) (c_i (i := 7))) (c_i (i := 2147483647)) (i_mod (by omega)))
    have hh : (h.set l (pn 0 b c')).set l (pn 0 b' c') = h.set l (pn 0 b' c') := by simp
    rw [hh] at s2
    have h2 : Hm.get (h.set l (pn 0 b' c')) l = pn 0 b' c' := Hm.get_setS hl
    have s3 := set_n (i := 2) (op_ii (F := iMod) (op_aa (op_aa (op_mm (ix1 (e := [some (.loc l), some (.int many), none, none]) rfl h2) (ix1 (e := [some (.loc l), some (.int many), none, none]) rfl h2) (.inl (by omega))) (op_mm (c_i (i := 69621)) (ix1 (e := [some (.loc l), some (.int many), none, none]) rfl h2) (.inl (by omega)))) (c_i (i := 11))) (c_i (i := 2147483629)) (i_mod (by omega)))
    have s4 := set_n (i := 2) (op_ii (F := iMod) (op_aa (op_mm (v_at (i := 2) (d := .int x) (e := [some (.loc l), some (.int many), some (.int x), none]) (h := h.set l (pn 0 b' c')) rfl) (v_at (i := 2) (d := .int x) rfl) (.inl (by omega))) (op_mm (c_i (i := 40014)) (v_at (i := 2) (d := .int x) rfl) (.inl (by omega)))) (c_i (i := 2147483587)) (i_mod (by omega)))
    have body : m_x_law_draw [some (.loc l), some (.int many), none, none] h = .rt (.int (y / 16 % many)) (h.set l (pn 0 b' c')) := by
      unfold m_x_law_draw
      refine (seq_n (if_f t)).trans ((seq_n s1).trans ((seq_n s2).trans ((seq_n s3).trans ((seq_n s4).trans ?_))))
      exact ret_n (op_ii (F := iMod) (op_ii (F := iDiv) (v_at (i := 2) (d := .int y) rfl) (c_i (i := 16)) (i_div (by omega) (by omega))) (v_at (i := 1) (d := .int many) rfl) (i_mod (by omega)))
    rw [body]
    exact fin1_same (by simp)
/-- n pens -/
inductive Pn : Nat → Hm → Prop
  | z : Pn 0 []
  | s {n : Nat} {h : Hm} (a b c : Int) : Pn n h → Pn (n + 1) (h ++ [pn a b c])
theorem Pn.len {n : Nat} {h : Hm} (p : Pn n h) : h.length = n := by
  induction p with
  | z => rfl
  | s a b c _ ih => simp [ih]
theorem call2 {F : FD} {x y : ME} {e : Ev} {h h1 : Hm} {u v w : D} (hx : x e h = .ok u h) (hy : y e h = .ok v h) (hf : F [u, v] h = .ok w h1) : mL F (aCons x (aCons y aNil)) e h = .ok w h1 := by
  simp [mL, aCons, aNil, hx, hy, Res.bind, hf]
theorem call1 {F : FD} {x : ME} {e : Ev} {h h1 : Hm} {u w : D} (hx : x e h = .ok u h) (hf : F [u] h = .ok w h1) : mL F (aCons x aNil) e h = .ok w h1 := by
  simp [mL, aCons, aNil, hx, Res.bind, hf]
theorem call0 {F : FD} {e : Ev} {h h1 : Hm} {w : D} (hf : F [] h = .ok w h1) : mL F aNil e h = .ok w h1 := by
  simp [mL, aNil, Res.bind, hf]
theorem op_aa' {x y : ME} {e : Ev} {h h1 : Hm} {i j : Int} (hx : x e h = .ok (.int i) h) (hy : y e h = .ok (.int j) h1) : m2 fAddG x y e h = .ok (.int (i + j)) h1 := by
  simp [m2, hx, hy, Res.bind, fAddG, lstH, fAdd]
theorem tr_b {x : ME} {e : Ev} {h h1 : Hm} {b : Bool} (hx : x e h = .ok (.bl b) h1) : mTr x e h = .ok b h1 := by
  simp [mTr, hx, Res.bind, truth]
theorem not_b {x : MT} {e : Ev} {h h1 : Hm} {b : Bool} (hx : x e h = .ok b h1) : mNotT x e h = .ok (!b) h1 := by
  simp [mNotT, hx, Res.bind]
theorem or_f {x y : MT} {e : Ev} {h h1 h2 : Hm} {b : Bool} (hx : x e h = .ok false h1) (hy : y e h1 = .ok b h2) : mOrT x y e h = .ok b h2 := by
  simp [mOrT, hx, hy, Res.bind]
theorem if_f' {c : MT} {a b : MS} {e : Ev} {h h1 : Hm} (hc : c e h = .ok false h1) : sIf c a b e h = b e h1 := by simp [sIf, hc]
theorem rdL_scr {h : Hm} {ns : List Int} : rdL h (.scr ns) = some (ns.map D.int) := rfl
theorem newL3 {x y z : ME} {e : Ev} {h : Hm} {u v w : D} (hx : x e h = .ok u h) (hy : y e h = .ok v h) (hz : z e h = .ok w h) : mNewL (aCons x (aCons y (aCons z aNil))) e h = .ok (.loc h.length) (h ++ [some (.lst [u, v, w])]) := by
  simp [mNewL, mL, aCons, aNil, hx, hy, hz, Res.bind, fNewL, LIM]
theorem len_scr {x : ME} {e : Ev} {h : Hm} {ns : List Int} (hx : x e h = .ok (.scr ns) h) : mL (f1 fLen) (aCons x aNil) e h = .ok (.int ns.length) h := by
  simp [mL, aCons, aNil, hx, Res.bind, f1, fLen, rdL_scr]
theorem cell {h : Hm} {ns : List Int} {k : Int} (hk : 0 ≤ k) : ∃ c : Int, F_x_law_cell_at_2 [.scr ns, .int k] h = .ok (.int c) h := by
  have top : F_x_law_cell_at_2 [.scr ns, .int k] h = runS h.length (m_x_law_cell_at [some (.scr ns), some (.int k)] h) := rfl
  rw [top]
  have t : mB (m2 fLt (mVar 1) (mL (f1 fLen) (aCons (mVar 0) aNil))) [some (.scr ns), some (.int k)] h = .ok (decide (k < ns.length)) h := by
    have e := len_scr (x := mVar 0) (e := [some (.scr ns), some (.int k)]) (h := h) (ns := ns) rfl
    have e2 : mVar 1 [some (.scr ns), some (.int k)] h = .ok (.int k) h := rfl
    simp [mB, m2, e, e2, Res.bind, fIB]
  by_cases hc : k < ns.length
  · rw [decide_eq_true hc] at t
    have hlt : k.toNat < ns.length := by omega
    refine ⟨ns[k.toNat], ?_⟩
    have e : m2 fIxD (mVar 0) (mVar 1) [some (.scr ns), some (.int k)] h = .ok (.int ns[k.toNat]) h := by
      have e1 : mVar 0 [some (.scr ns), some (.int k)] h = .ok (.scr ns) h := rfl
      have e2 : mVar 1 [some (.scr ns), some (.int k)] h = .ok (.int k) h := rfl
      have e3 : L2.atI (ns.map D.int) k = some (.int ns[k.toNat]) := by
        unfold L2.atI L2.ixN
        simp [hk, hc, hlt]
      simp [m2, e1, e2, Res.bind, fIxD, rdD, fIx, rdS, rdL, e3]
    have body : m_x_law_cell_at [some (.scr ns), some (.int k)] h = .rt (.int ns[k.toNat]) h := by
      unfold m_x_law_cell_at
      refine seq_r ?_
      rw [if_t t]
      exact ret_n e
    rw [body]
    exact fin1_same (Nat.le_refl _)
  · rw [decide_eq_false hc] at t
    refine ⟨0, ?_⟩
    have body : m_x_law_cell_at [some (.scr ns), some (.int k)] h = .rt (.int 0) h := by
      unfold m_x_law_cell_at
      refine (seq_n (if_f t)).trans (ret_n c_i)
    rw [body]
    exact fin1_same (Nat.le_refl _)
theorem pen {h : Hm} (c : Int) : ∃ a b, F_x_law_pen_1 [.int c] h = .ok (.loc h.length) (h ++ [pn a b 0]) ∧ 0 ≤ a ∧ 0 ≤ b ∧ b ≤ 2147483647 := by
  let a := if c - 10 ^ 18 > 0 then c - 10 ^ 18 else 0
  let b := c % 2147483629 + 1
  have hb0 : 0 ≤ c % 2147483629 := Int.emod_nonneg _ (by omega)
  have hb1 : c % 2147483629 < 2147483629 := Int.emod_lt_of_pos _ (by omega)
  refine ⟨a, b, ?_, ?_, by omega, by omega⟩
  · have top : F_x_law_pen_1 [.int c] h = runS h.length (m_x_law_pen [some (.int c)] h) := rfl
    rw [top]
    have body : m_x_law_pen [some (.int c)] h = .rt (.loc h.length) (h ++ [pn a b 0]) := by
      unfold m_x_law_pen
      refine ret_n ?_
      have v0 : mVar 0 [some (.int c)] h = .ok (.int c) h := rfl
      have e1 : m2 (fII iPow) (mC (.int 10)) (mC (.int 18)) [some (.int c)] h = .ok (.int (10 ^ 18)) h := by
        have : iPow 10 18 = some (10 ^ 18) := by decide
        exact op_ii c_i c_i this
      have e2 : m2 fSub (mVar 0) (m2 (fII iPow) (mC (.int 10)) (mC (.int 18))) [some (.int c)] h = .ok (.int (c - 10 ^ 18)) h := op_ii (F := fun i j => some (i - j)) v0 e1 rfl
      have e3 : mL (f2 fMax2) (aCons (mC (.int 0)) (aCons (m2 fSub (mVar 0) (m2 (fII iPow) (mC (.int 10)) (mC (.int 18)))) aNil)) [some (.int c)] h = .ok (.int a) h := call2 c_i e2 rfl
      have e4 : m2 fAddG (m2 (fII iMod) (mVar 0) (mC (.int 2147483629))) (mC (.int 1)) [some (.int c)] h = .ok (.int b) h := op_aa (op_ii v0 c_i (i_mod (by omega))) c_i
      have e5 : mC (.int 0) [some (.int c)] h = .ok (.int 0) h := rfl
      exact newL3 e3 e4 e5
    rw [body]
    show fin1 h.length (.loc h.length) (h ++ [pn a b 0]) = _
    unfold fin1
    simp [D.low]
  · show 0 ≤ (if c - 10 ^ 18 > 0 then c - 10 ^ 18 else 0)
    split <;> omega
theorem draw_last {h : Hm} {a b c many : Int} (ha : 0 ≤ a) (hb : 0 ≤ b) (hb2 : b ≤ 2147483647) (hm : 1 ≤ many) (hm2 : many ≤ 1000000) :
    ∃ r a' b' c', F_x_law_draw_2 [.loc h.length, .int many] (h ++ [pn a b c]) = .ok (.int r) (h ++ [pn a' b' c']) ∧ 0 ≤ r ∧ r < many ∧ 0 ≤ a' ∧ 0 ≤ b' ∧ b' ≤ 2147483647 := by
  obtain ⟨r, a', b', c', e, q⟩ := draw (h := h ++ [pn a b c]) (l := h.length) (a := a) (b := b) (c := c) (many := many) (by rw [Hm.get_app, if_pos rfl]) ha hb hb2 hm hm2
  refine ⟨r, a', b', c', ?_, q⟩
  rw [e]
  simp
theorem call2r {F : FD} {x y : ME} {e : Ev} {h h1 h2 : Hm} {u v w : D} (hx : x e h = .ok u h) (hy : y e h = .ok v h1) (hf : F [u, v] h1 = .ok w h2) : mL F (aCons x (aCons y aNil)) e h = .ok w h2 := by
  simp [mL, aCons, aNil, hx, hy, Res.bind, hf]

/-! ### drawing -/
/-- nothing in these places tells of a place -/
def LowH (h : Hm) : Prop := ∀ n, Hm.low n h = true
theorem lowH_nil : LowH [] := fun _ => rfl
theorem low_app : ∀ {h h' : Hm} {n : Nat}, Hm.low n h = true → Hm.low n h' = true → Hm.low n (h ++ h') = true
  | [], _, _, _, b => b
  | none :: h, h', n, a, b => low_app (h := h) (n := n) a b
  | some o :: h, h', n, a, b => by
    have a' : (o.low n && Hm.low n h) = true := a
    rw [Bool.and_eq_true] at a'
    show (o.low n && Hm.low n (h ++ h')) = true
    rw [a'.1, low_app a'.2 b]; rfl
theorem lowH_pn {h : Hm} (q : LowH h) (a b c : Int) : LowH (h ++ [pn a b c]) := fun n => low_app (q n) rfl
/-- a pen at the end -/
structure PS (h0 h : Hm) : Prop where
  low : LowH h0
  ex : ∃ a b c, h = h0 ++ [pn a b c] ∧ 0 ≤ a ∧ 0 ≤ b ∧ b ≤ 2147483647
theorem PS.len {h0 h : Hm} (q : PS h0 h) : h.length = h0.length + 1 := by
  obtain ⟨a, b, c, rfl, _⟩ := q.ex
  simp
theorem PS.lowH {h0 h : Hm} (q : PS h0 h) : LowH h := by
  obtain ⟨a, b, c, rfl, _⟩ := q.ex
  exact lowH_pn q.low a b c
theorem d_draw {h0 h : Hm} (q : PS h0 h) {m : Nat} (h1 : 1 ≤ m) (h2 : m ≤ 1000000) : ∃ (r : Nat) (h' : Hm), r < m ∧ PS h0 h' ∧ F_x_law_draw_2 [.loc h0.length, N m] h = .ok (N r) h' := by
  obtain ⟨a, b, c, rfl, ha, hb, hb2⟩ := q.ex
  obtain ⟨r, a', b', c', e, r0, r1, ha', hb', hb2'⟩ := draw_last (h := h0) (a := a) (b := b) (c := c) (many := (m : Int)) ha hb hb2 (by omega) (by omega)
  refine ⟨r.toNat, h0 ++ [pn a' b' c'], by omega, ⟨q.low, a', b', c', rfl, ha', hb', hb2'⟩, ?_⟩
  rw [e, show N r.toNat = D.int r by show D.int (r.toNat : Int) = _; rw [Int.toNat_of_nonneg r0]]
theorem compL_st {α β : Type} {t : Tg} {elt : ME} {e0 : Ev} {en : α → D} {ev : β → D} (Q : β → Prop) (I : Hm → Prop) : ∀ {xs : List α} {h : Hm}, (∀ x ∈ xs, ∀ h, I h → ∃ e1 v h', t (en x) e0 = some e1 ∧ elt e1 h = .ok (ev v) h' ∧ Q v ∧ I h') → I h →
    ∃ (vs : List β) (h' : Hm), vs.length = xs.length ∧ (∀ v ∈ vs, Q v) ∧ I h' ∧ compL t tYesM elt e0 (xs.map en) h = .ok (vs.map ev) h'
  | [], h, _, hi => ⟨[], h, rfl, by simp, hi, rfl⟩
  | x :: xs, h, H, hi => by
    obtain ⟨e1, v, h1, a, b, q, i1⟩ := H x (by simp) h hi
    obtain ⟨vs, h2, l, qs, i2, e⟩ := compL_st Q I (xs := xs) (h := h1) (fun y hy => H y (by simp [hy])) i1
    refine ⟨v :: vs, h2, by simp [l], by
      intro w hw
      rcases List.mem_cons.mp hw with rfl | hw
      · exact q
      · exact qs w hw, i2, ?_⟩
    rw [List.map_cons]
    unfold compL
    rw [a]
    simp only [show tYesM e1 h = .ok true h from rfl, nox, Res.bind, if_true, b, e]
    rfl
theorem comp_st {α β : Type} {mi : MI} {t : Tg} {elt : ME} {e : Ev} {vs : List Nat} {en : α → D} {ev : β → D} {xs : List α} {h h1 : Hm} (Q : β → Prop) (I : Hm → Prop) (hm : mi e h = .ok (xs.map en) h1) (hl : xs.length ≤ LIM) (H : ∀ x ∈ xs, ∀ h, I h → ∃ e1 v h', t (en x) (ewipe e vs) = some e1 ∧ elt e1 h = .ok (ev v) h' ∧ Q v ∧ I h') (hi : I h1) :
    ∃ (us : List β) (h' : Hm), us.length = xs.length ∧ (∀ v ∈ us, Q v) ∧ I h' ∧ mComp mi t tYesM elt vs e h = .ok (.lst (us.map ev)) h' := by
  obtain ⟨us, h', l, q, i, e1⟩ := compL_st (t := t) (elt := elt) (e0 := ewipe e vs) (en := en) (ev := ev) Q I H hi
  refine ⟨us, h', l, q, i, ?_⟩
  unfold mComp
  rw [hm]
  simp only [Res.bind, e1, fLst]
  rw [if_pos (by rw [List.length_map, l]; exact hl)]
end Law
end MP
end L2

set_option Elab.async false
set_option linter.all false
set_option maxRecDepth 100000
set_option maxHeartbeats 4000000
namespace L2
namespace MP
namespace Law
open PySem PySem.Spec PyProof.Rows
/-- answers: some, ascending, places -/
structure AnsOk (n : Nat) (a : List Nat) : Prop where
  ne : a ≠ []
  asc : a.Pairwise (· < ·)
  lt : ∀ x ∈ a, x < n
theorem call1r {F : FD} {x : ME} {e : Ev} {h h1 h2 : Hm} {u w : D} (hx : x e h = .ok u h1) (hf : F [u] h1 = .ok w h2) : mL F (aCons x aNil) e h = .ok w h2 := by
  simp [mL, aCons, aNil, hx, Res.bind, hf]
theorem m1_ok {F : D → Hm → Res D} {a : ME} {e : Ev} {h h1 : Hm} {x : D} {r : Res D} (ha : a e h = .ok x h1) (hf : F x h1 = r) : m1 F a e h = r := by
  unfold m1
  rw [ha]; exact hf
theorem m2_ok {F : D → D → Hm → Res D} {a b : ME} {e : Ev} {h h1 h2 : Hm} {x y : D} {r : Res D} (ha : a e h = .ok x h1) (hb : b e h1 = .ok y h2) (hf : F x y h2 = r) : m2 F a b e h = r := by
  unfold m2
  rw [ha]
  show (b e h1).bind _ = _
  rw [hb]; exact hf
theorem mB_ok {a : ME} {e : Ev} {h h1 : Hm} {b : Bool} (ha : a e h = .ok (.bl b) h1) : mB a e h = .ok b h1 := by
  unfold mB
  rw [ha]; rfl
theorem asg_n {a : ME} {t : Tg} {e e1 : Ev} {h h1 : Hm} {x : D} (ha : a e h = .ok x h1) (ht : t x e = some e1) : sAsg a t e h = .nx e1 h1 := by
  unfold sAsg
  rw [ha]
  simp only [ht]
theorem tup2 {A B : ME} {e : Ev} {h g1 g2 : Hm} {x y : D} (a : A e h = .ok x g1) (b : B e g1 = .ok y g2) : mTup (aCons A (aCons B aNil)) e h = .ok (.tup [x, y]) g2 := by
  have c : fTup [x, y] g2 = .ok (.tup [x, y]) g2 := if_pos (by simp [LIM])
  simp only [mTup, mL, aCons, aNil, a, b, Res.bind, c]
theorem tup1 {A : ME} {e : Ev} {h g1 : Hm} {x : D} (a : A e h = .ok x g1) : mTup (aCons A aNil) e h = .ok (.tup [x]) g1 := by
  have c : fTup [x] g1 = .ok (.tup [x]) g1 := if_pos (by simp [LIM])
  simp only [mTup, mL, aCons, aNil, a, Res.bind, c]
theorem tup3 {A B C : ME} {e : Ev} {h g1 g2 g3 : Hm} {x y z : D} (a : A e h = .ok x g1) (b : B e g1 = .ok y g2) (c : C e g2 = .ok z g3) : mTup (aCons A (aCons B (aCons C aNil))) e h = .ok (.tup [x, y, z]) g3 := by
  have d : fTup [x, y, z] g3 = .ok (.tup [x, y, z]) g3 := if_pos (by simp [LIM])
  simp only [mTup, mL, aCons, aNil, a, b, c, Res.bind, d]
theorem lst2 {A B : ME} {e : Ev} {h g1 g2 : Hm} {x y : D} (a : A e h = .ok x g1) (b : B e g1 = .ok y g2) : mLst (aCons A (aCons B aNil)) e h = .ok (.lst [x, y]) g2 := by
  have c : fLst [x, y] g2 = .ok (.lst [x, y]) g2 := if_pos (by simp [LIM])
  simp only [mLst, mL, aCons, aNil, a, b, Res.bind, c]
theorem fd_st {F : FD} {n : Nat} {as : List D} {v : D} {h h' : Hm} (e : F as h = .ok v h') (hn : as.length = n) : fdD F n [] as h = .ok v h' := by
  unfold fdD
  simp [hn, e]
theorem runF_st {len : Nat} {m : MS} {as : List D} {v : D} {h h' : Hm} (e : m (as.map some ++ List.replicate (len - as.length) none) h = .rt v h') (hl : h'.length ≤ h.length) : runF len m as h = .ok v h' := by
  unfold runF
  rw [e]; exact fin1_same' hl
theorem pick6 {xs : List Nat} (h6 : xs.length = 6) (b : Nat) (hb : ∀ x ∈ xs, 1 ≤ x ∧ x ≤ b) {r : Nat} (hr : r < 6) : ∃ v, xs[r]? = some v ∧ 1 ≤ v ∧ v ≤ b :=
  ⟨xs[r]'(by omega), by simp, hb _ (List.getElem_mem _)⟩
theorem d_answers {h0 h : Hm} (q : PS h0 h) {n : Nat} (h1 : 1 ≤ n) (h2 : n ≤ 6) : ∃ (a : List Nat) (h' : Hm), AnsOk n a ∧ PS h0 h' ∧ F_x_law_answers_2 [.loc h0.length, N n] h = .ok (eT a) h' := by
  obtain ⟨r, g1, hr, q1, e1⟩ := d_draw q (m := 6) (by omega) (by omega)
  obtain ⟨v, ev, v1, v2⟩ := pick6 (xs := [1, 1, 2, 2, 1, 3]) rfl 3 (by decide) hr
  obtain ⟨us, g2, l, hu, q2, e2⟩ := comp_st (mi := iRange1 (mVar 2)) (t := gN 3) (elt := mL F_x_law_draw_2 (aCons (mVar 0) (aCons (mVar 1) (aNil)))) (e := [some (.loc h0.length), some (N n), some (N v), none]) (vs := [3]) (en := N) (ev := N) (xs := List.range v) (h := g1) (h1 := g1) (fun x => x < n) (PS h0) (iRange_N rfl (by omega)) (by unfold LIM; simp; omega) (fun x hx g qg => by
    obtain ⟨r, g', hr, qg', e⟩ := d_draw qg (m := n) h1 (by omega)
    exact ⟨[some (.loc h0.length), some (N n), some (N v), some (N x)], r, g', rfl, call2r rfl rfl e, hr, qg'⟩) q1
  rw [List.length_range] at l
  have hs : us ≠ [] := by rintro rfl; simp at l; omega
  refine ⟨PF.sortU us, g2, ⟨?_, PF.asc_sortU, fun x hx => hu x (PF.mem_sortU.mp hx)⟩, q2, ?_⟩
  · obtain ⟨x, hx⟩ := List.exists_mem_of_ne_nil us hs
    exact List.ne_nil_of_mem (PF.mem_sortU.mpr hx)
  · refine fd_st (F := runF 4 m_x_law_answers) (runF_st (len := 4) (m := m_x_law_answers) (as := [.loc h0.length, N n]) ?_ (by rw [q2.len, q.len]; exact Nat.le_refl _)) rfl
    show m_x_law_answers [some (.loc h0.length), some (N n), none, none] h = _
    have s1 : sSet 2 (m2 fIxD (mLst (aCons (mC (.int 1)) (aCons (mC (.int 1)) (aCons (mC (.int 2)) (aCons (mC (.int 2)) (aCons (mC (.int 1)) (aCons (mC (.int 3)) (aNil)))))))) (mL F_x_law_draw_2 (aCons (mVar 0) (aCons (mC (.int 6)) (aNil))))) [some (.loc h0.length), some (N n), none, none] h = .nx [some (.loc h0.length), some (N n), some (N v), none] g1 := by
      have a1 : mLst (aCons (mC (.int 1)) (aCons (mC (.int 1)) (aCons (mC (.int 2)) (aCons (mC (.int 2)) (aCons (mC (.int 1)) (aCons (mC (.int 3)) (aNil))))))) [some (.loc h0.length), some (N n), none, none] h = .ok (.lst ([1, 1, 2, 2, 1, 3].map N)) h := by
        simp [mLst, mL, aCons, aNil, mC, Res.bind, fLst, LIM]
      have a2 : mL F_x_law_draw_2 (aCons (mVar 0) (aCons (mC (.int 6)) (aNil))) [some (.loc h0.length), some (N n), none, none] h = .ok (N r) g1 := call2r rfl rfl e1
      have a3 := fIx_L (h := g1) (en := N) ev
      exact set_n (m2_ok a1 a2 a3)
    unfold m_x_law_answers
    have a4 := fSortSet_L (h := g2) (l := us) (by omega)
    exact (seq_nx s1).trans (ret_n (call1r (m1_ok e2 a4) rfl))
/-- moves of up to so many places -/
structure MvOk (m : Nat) (mv : List (List (List Nat))) : Prop where
  n1 : 1 ≤ mv.length
  n6 : mv.length ≤ m
  ks : ∃ k, 1 ≤ k ∧ k ≤ 3 ∧ ∀ r ∈ mv, r.length = k
  asc : ∀ r ∈ mv, ∀ a ∈ r, AnsOk mv.length a
theorem d_moves {h0 h : Hm} (q : PS h0 h) {m : Nat} (h1 : 1 ≤ m) (h2 : m ≤ 6) : ∃ (mv : List (List (List Nat))) (h' : Hm), MvOk m mv ∧ PS h0 h' ∧ F_x_law_moves_2 [.loc h0.length, N m] h = .ok (eM mv) h' := by
  obtain ⟨r1, g1, hr1, q1, e1⟩ := d_draw q (m := m) h1 (by omega)
  obtain ⟨r2, g2, hr2, q2, e2⟩ := d_draw q1 (m := 2) (by omega) (by omega)
  obtain ⟨r3, g3, hr3, q3, e3⟩ := d_draw q2 (m := 6) (by omega) (by omega)
  obtain ⟨k, ek, k1, k2⟩ := pick6 (xs := [2, 2, 1, 3, 2, 3]) rfl 3 (by decide) hr3
  obtain ⟨n, en', n1, n2⟩ : ∃ n, [m, 1 + r1][r2]? = some n ∧ 1 ≤ n ∧ n ≤ m := by
    match r2, hr2 with
    | 0, _ => exact ⟨m, rfl, h1, Nat.le_refl _⟩
    | 1, _ => exact ⟨1 + r1, rfl, by omega, by omega⟩
  obtain ⟨us, g4, l, hu, q4, e4⟩ := comp_st (mi := iRange1 (mVar 2)) (t := gN 4) (elt := mL (f1 fTupOf) (aCons (mComp (iRange1 (mVar 3)) (gN 5) (tYesM) (mL F_x_law_answers_2 (aCons (mVar 0) (aCons (mVar 2) (aNil)))) [5]) (aNil))) (e := [some (.loc h0.length), some (N m), some (N n), some (N k), none, none]) (vs := [4]) (en := N) (ev := eR) (xs := List.range n) (h := g3) (h1 := g3) (fun r : List (List Nat) => r.length = k ∧ ∀ a ∈ r, AnsOk n a) (PS h0) (iRange_N rfl (by omega)) (by unfold LIM; simp; omega) (fun x hx g qg => by
    obtain ⟨vs, g', l', hv, qv, e⟩ := comp_st (mi := iRange1 (mVar 3)) (t := gN 5) (elt := mL F_x_law_answers_2 (aCons (mVar 0) (aCons (mVar 2) (aNil)))) (e := [some (.loc h0.length), some (N m), some (N n), some (N k), some (N x), none]) (vs := [5]) (en := N) (ev := eT) (xs := List.range k) (h := g) (h1 := g) (AnsOk n) (PS h0) (iRange_N rfl (by omega)) (by unfold LIM; simp; omega) (fun y hy g qg => by
      obtain ⟨a, g', ha, qg', e⟩ := d_answers qg (n := n) n1 (by omega)
      exact ⟨[some (.loc h0.length), some (N m), some (N n), some (N k), some (N x), some (N y)], a, g', rfl, call2r rfl rfl e, ha, qg'⟩) qg
    exact ⟨[some (.loc h0.length), some (N m), some (N n), some (N k), some (N x), none], vs, g', rfl, call1r e rfl, ⟨by simpa using l', hv⟩, qv⟩) q3
  rw [List.length_range] at l
  refine ⟨us, g4, ⟨by omega, by omega, ⟨k, k1, k2, fun r hr => (hu r hr).1⟩, fun r hr a ha => by rw [l]; exact (hu r hr).2 a ha⟩, q4, ?_⟩
  refine fd_st (F := runF 6 m_x_law_moves) (runF_st (len := 6) (m := m_x_law_moves) (as := [.loc h0.length, N m]) ?_ (by rw [q4.len, q.len]; exact Nat.le_refl _)) rfl
  show m_x_law_moves [some (.loc h0.length), some (N m), none, none, none, none] h = _
  have b : m2 fAddG (mC (.int 1)) (mL F_x_law_draw_2 (aCons (mVar 0) (aCons (mVar 1) (aNil)))) [some (.loc h0.length), some (N m), none, none, none, none] h = .ok (N (1 + r1)) g1 := by
    refine m2_ok (x := .int 1) (y := N r1) rfl (call2r rfl rfl e1) ?_
    show Res.ok (D.int ((1 : Int) + (r1 : Int))) g1 = _
    rw [show ((1 : Int) + (r1 : Int)) = ((1 + r1 : Nat) : Int) by omega]
  have b1 : mLst (aCons (mVar 1) (aCons (m2 fAddG (mC (.int 1)) (mL F_x_law_draw_2 (aCons (mVar 0) (aCons (mVar 1) (aNil))))) (aNil))) [some (.loc h0.length), some (N m), none, none, none, none] h = .ok (.lst ([m, 1 + r1].map N)) g1 := lst2 rfl b
  have b2 : mL F_x_law_draw_2 (aCons (mVar 0) (aCons (mC (.int 2)) (aNil))) [some (.loc h0.length), some (N m), none, none, none, none] g1 = .ok (N r2) g2 := call2r rfl rfl e2
  have b3 : mL F_x_law_draw_2 (aCons (mVar 0) (aCons (mC (.int 6)) (aNil))) [some (.loc h0.length), some (N m), none, none, none, none] g2 = .ok (N r3) g3 := call2r rfl rfl e3
  have b4 : mLst (aCons (mC (.int 2)) (aCons (mC (.int 2)) (aCons (mC (.int 1)) (aCons (mC (.int 3)) (aCons (mC (.int 2)) (aCons (mC (.int 3)) (aNil))))))) [some (.loc h0.length), some (N m), none, none, none, none] g2 = .ok (.lst ([2, 2, 1, 3, 2, 3].map N)) g2 := by
    simp [mLst, mL, aCons, aNil, mC, Res.bind, fLst, LIM]
  have b5 := fIx_L (h := g2) (en := N) en'
  have b6 := fIx_L (h := g3) (en := N) ek
  have c1 := m2_ok b1 b2 b5
  have c2 := m2_ok b4 b3 b6
  have s1 := asg_n (t := gTn 2 (gCons (gN 2) (gCons (gN 3) (gNil)))) (e1 := [some (.loc h0.length), some (N m), some (N n), some (N k), none, none]) (tup2 c1 c2) rfl
  have e5 := call1r (F := f1 fTupOf) e4 (w := eM us) (h2 := g4) rfl
  exact (seq_nx s1).trans (ret_n e5)
theorem ff_range {n : Nat} {c : Nat → Bool} : ((List.range n).filter c).Pairwise (· < ·) ∧ ∀ x ∈ (List.range n).filter c, x < n :=
  ⟨List.pairwise_lt_range.filter _, fun x hx => by simpa using (List.mem_filter.mp hx).1⟩
theorem d_marks {h0 h : Hm} (q : PS h0 h) {n : Nat} (h2 : n ≤ 6) : ∃ (bad goal : List Nat) (h' : Hm), (bad.Pairwise (· < ·) ∧ ∀ x ∈ bad, x < n) ∧ (goal.Pairwise (· < ·) ∧ ∀ x ∈ goal, x < n) ∧ (∀ x ∈ bad, x ∉ goal) ∧ PS h0 h' ∧ F_x_law_marks_2 [.loc h0.length, N n] h = .ok (.tup [eT bad, eT goal]) h' := by
  obtain ⟨us, g1, l, hu, q1, e1⟩ := comp_st (mi := iRange1 (mVar 1)) (t := gN 3) (elt := mL F_x_law_draw_2 (aCons (mVar 0) (aCons (mC (.int 6)) (aNil)))) (e := [some (.loc h0.length), some (N n), none, none, none]) (vs := [3]) (en := N) (ev := N) (xs := List.range n) (h := h) (h1 := h) (fun x => x < 6) (PS h0) (iRange_N rfl (by omega)) (by unfold LIM; simp; omega) (fun x hx g qg => by
    obtain ⟨r, g', hr, qg', e⟩ := d_draw qg (m := 6) (by omega) (by omega)
    exact ⟨[some (.loc h0.length), some (N n), none, some (N x), none], r, g', rfl, call2r rfl rfl e, hr, qg'⟩) q
  rw [List.length_range] at l
  have cf : ∀ k : Nat, mComp (iRange1 (mVar 1)) (gN 4) (mB (m2 fEq (m2 fIxD (mVar 2) (mVar 4)) (mC (.int k)))) (mVar 4) [4] [some (.loc h0.length), some (N n), some (.lst (us.map N)), none, none] g1 = .ok (.lst (((List.range n).filter fun x => us.getD x 9 == k).map N)) g1 := fun k =>
    comp_filter (mi := iRange1 (mVar 1)) (t := gN 4) (cond := mB (m2 fEq (m2 fIxD (mVar 2) (mVar 4)) (mC (.int k)))) (elt := mVar 4) (vs := [4]) (e := [some (.loc h0.length), some (N n), some (.lst (us.map N)), none, none]) (h := g1) (h1 := g1) (xs := List.range n) (en := N) (f := N) (c := fun x => us.getD x 9 == k) (iRange_N rfl (by omega)) (by unfold LIM; simp; omega) (fun x hx => by
      have hx' : x < us.length := by rw [l]; simpa using hx
      have e2 := fIx_L (h := g1) (en := N) (l := us) (i := x) (a := us.getD x 9) (by simp [List.getD, hx'])
      refine ⟨[some (.loc h0.length), some (N n), some (.lst (us.map N)), none, some (N x)], rfl, ?_, fun _ => rfl⟩
      simp only [mB, m2, mVar, mC, Res.bind, List.getElem?_cons_succ, List.getElem?_cons_zero, e2, fEq_I, beq_NN])
  refine ⟨_, _, g1, ff_range (n := n) (c := fun x => us.getD x 9 == 0), ff_range (n := n) (c := fun x => us.getD x 9 == 1), ?_, q1, ?_⟩
  · intro x hx hx'
    have a := (List.mem_filter.mp hx).2
    have b := (List.mem_filter.mp hx').2
    simp only [beq_iff_eq] at a b
    omega
  · refine fd_st (F := runF 5 m_x_law_marks) (runF_st (len := 5) (m := m_x_law_marks) (as := [.loc h0.length, N n]) ?_ (by rw [q1.len, q.len]; exact Nat.le_refl _)) rfl
    show m_x_law_marks [some (.loc h0.length), some (N n), none, none, none] h = _
    have s1 : sSet 2 (mComp (iRange1 (mVar 1)) (gN 3) (tYesM) (mL F_x_law_draw_2 (aCons (mVar 0) (aCons (mC (.int 6)) (aNil)))) [3]) [some (.loc h0.length), some (N n), none, none, none] h = .nx [some (.loc h0.length), some (N n), some (.lst (us.map N)), none, none] g1 := set_n e1
    unfold m_x_law_marks
    refine (seq_nx s1).trans (ret_n ?_)
    have d0 : mL (f1 fTupOf) (aCons (mComp (iRange1 (mVar 1)) (gN 4) (mB (m2 fEq (m2 fIxD (mVar 2) (mVar 4)) (mC (.int 0)))) (mVar 4) [4]) (aNil)) [some (.loc h0.length), some (N n), some (.lst (us.map N)), none, none] g1 = .ok (eT ((List.range n).filter fun x => us.getD x 9 == 0)) g1 := call1 (cf 0) rfl
    have d1 : mL (f1 fTupOf) (aCons (mComp (iRange1 (mVar 1)) (gN 4) (mB (m2 fEq (m2 fIxD (mVar 2) (mVar 4)) (mC (.int 1)))) (mVar 4) [4]) (aNil)) [some (.loc h0.length), some (N n), some (.lst (us.map N)), none, none] g1 = .ok (eT ((List.range n).filter fun x => us.getD x 9 == 1)) g1 := call1 (cf 1) rfl
    exact call2 (F := fTup) d0 d1 (if_pos (by simp [LIM]))
/-- the parts of a plant of up to so many places -/
structure PlOk (m : Nat) (p : PF.Pl) : Prop where
  ok : p.Ok
  le : p.mv.length ≤ m
theorem pl_of {m : Nat} (hm : m ≤ 6) {mv : List (List (List Nat))} {bad goal : List Nat} (a : MvOk m mv) (b : bad.Pairwise (· < ·) ∧ ∀ x ∈ bad, x < mv.length) (c : goal.Pairwise (· < ·) ∧ ∀ x ∈ goal, x < mv.length) (d : ∀ x ∈ bad, x ∉ goal) : PlOk m ⟨mv, bad, goal⟩ := by
  obtain ⟨k, k1, k3, hk⟩ := a.ks
  have h1 := a.n1
  have ek : PF.Pl.k ⟨mv, bad, goal⟩ = k := by
    unfold PF.Pl.k
    have : mv.getD 0 [] = mv[0] := by
      unfold List.getD
      rw [List.getElem?_eq_getElem (by omega)]; rfl
    show (mv.getD 0 []).length = k
    rw [this]
    exact hk _ (List.getElem_mem _)
  exact ⟨⟨h1, Nat.le_trans a.n6 hm, by rw [ek]; exact k1, by rw [ek]; exact k3, fun r hr => by rw [ek]; exact hk r hr, fun r hr x hx => ⟨(a.asc r hr x hx).ne, (a.asc r hr x hx).asc, (a.asc r hr x hx).lt⟩, b, c, d⟩, a.n6⟩
def ePts (p : PF.Pl) : D := .tup [eM p.mv, eT p.bad, eT p.goal]
theorem d_parts {h0 h : Hm} (q : PS h0 h) {m : Nat} (h1 : 1 ≤ m) (h2 : m ≤ 6) : ∃ (p : PF.Pl) (h' : Hm), PlOk m p ∧ PS h0 h' ∧ F_x_law_parts_2 [.loc h0.length, N m] h = .ok (ePts p) h' := by
  obtain ⟨mv, g1, hm, q1, e1⟩ := d_moves q h1 h2
  obtain ⟨bad, goal, g2, hb, hg, hd, q2, e2⟩ := d_marks q1 (n := mv.length) (Nat.le_trans hm.n6 h2)
  refine ⟨⟨mv, bad, goal⟩, g2, pl_of h2 hm hb hg hd, q2, ?_⟩
  refine fd_st (F := runF 3 m_x_law_parts) (runF_st (len := 3) (m := m_x_law_parts) (as := [.loc h0.length, N m]) ?_ (by rw [q2.len, q.len]; exact Nat.le_refl _)) rfl
  show m_x_law_parts [some (.loc h0.length), some (N m), none] h = _
  have s1 : sSet 2 (mL F_x_law_moves_2 (aCons (mVar 0) (aCons (mVar 1) (aNil)))) [some (.loc h0.length), some (N m), none] h = .nx [some (.loc h0.length), some (N m), some (eM mv)] g1 := set_n (call2r rfl rfl e1)
  unfold m_x_law_parts
  refine (seq_nx s1).trans (ret_n ?_)
  have c1 : mL (f1 fLen) (aCons (mVar 2) (aNil)) [some (.loc h0.length), some (N m), some (eM mv)] g1 = .ok (N mv.length) g1 := call1 rfl len_M
  have c2 : mL F_x_law_marks_2 (aCons (mVar 0) (aCons (mL (f1 fLen) (aCons (mVar 2) (aNil))) (aNil))) [some (.loc h0.length), some (N m), some (eM mv)] g1 = .ok (.tup [eT bad, eT goal]) g2 := call2r rfl c1 e2
  have c3 : mTup (aCons (mVar 2) (aNil)) [some (.loc h0.length), some (N m), some (eM mv)] g1 = .ok (.tup [eM mv]) g1 := call1 rfl (if_pos (by simp [LIM]))
  have c4 : fAddG (.tup [eM mv]) (.tup [eT bad, eT goal]) g2 = .ok (ePts ⟨mv, bad, goal⟩) g2 := by simp [fAddG, lstH, fAdd, LIM, ePts]
  exact m2_ok c3 c2 c4
end Law
end MP
end L2

set_option Elab.async false
set_option linter.all false
set_option maxRecDepth 100000
set_option maxHeartbeats 4000000
namespace L2
namespace MP
namespace Law
open PySem PySem.Spec PyProof.Rows
/-! ### making news -/
theorem q_need_number {x : Nat} (hx : x ≤ 4) {h : Hm} : F_xneed_number_3 [N x, .int 0, .int 4] h = .ok .non h := by
  refine fr_ok (F := runF 3 m_xneed_number) (runF_nx0 (e' := [some (N x), some (.int 0), some (.int 4)]) (h := []) ?_) rfl rfl h
  show m_xneed_number [some (N x), some (.int 0), some (.int 4)] [] = _
  have e := q_between_t (x := (x : Int)) (lo := 0) (hi := 4) (h := []) (by omega) (by omega)
  simp only [m_xneed_number, sIf, mNotT, mTr, mL, aCons, aNil, mVar, Res.bind, List.getElem?_cons_succ, List.getElem?_cons_zero, e, truth, Bool.not_true, sNil]
theorem fGt_f {x k : Nat} (hx : x ≤ k) {h : Hm} : fGt (.int x) (.int k) h = .ok (.bl false) h := by
  show Res.ok (D.bl (decide ((k : Int) < x))) h = _
  rw [decide_eq_false (by omega)]
theorem q_numbers {a b : Nat} (hab : a + b ≤ 4) {h : Hm} : F_xnumbers_of_2 [N a, N b] h = .ok (.tup [N a, N b]) h := by
  refine fr_ok (F := runF 2 m_xnumbers_of) (runF_rt0 (h := []) ?_ rfl) rfl rfl h
  show m_xnumbers_of [some (N a), some (N b)] [] = _
  have e1 : mL F_xneed_number_3 (aCons (mVar 0) (aCons (mC (.int 0)) (aCons (mC (.int 4)) (aNil)))) [some (N a), some (N b)] [] = .ok .non [] := by
    simp only [mL, aCons, aNil, mVar, mC, Res.bind, List.getElem?_cons_succ, List.getElem?_cons_zero, q_need_number (show a ≤ 4 by omega)]
  have e2 : mL F_xneed_number_3 (aCons (mVar 1) (aCons (mC (.int 0)) (aCons (mC (.int 4)) (aNil)))) [some (N a), some (N b)] [] = .ok .non [] := by
    simp only [mL, aCons, aNil, mVar, mC, Res.bind, List.getElem?_cons_succ, List.getElem?_cons_zero, q_need_number (show b ≤ 4 by omega)]
  have e3 : mB (m2 fGt (m2 fAddG (mVar 0) (mVar 1)) (mC (.int 4))) [some (N a), some (N b)] [] = .ok false [] := by
    refine mB_ok (m2_ok (m2_ok rfl rfl fAddG_I) rfl ?_)
    show Res.ok (D.bl (decide ((4 : Int) < (a : Int) + (b : Int)))) [] = _
    rw [decide_eq_false (by omega)]
  have s1 : ∀ M : ME, M [some (N a), some (N b)] [] = .ok .non [] → sExpr M [some (N a), some (N b)] [] = .nx [some (N a), some (N b)] [] := fun M h => by simp only [sExpr, h]
  unfold m_xnumbers_of
  exact (seq_nx (s1 _ e1)).trans ((seq_nx (s1 _ e2)).trans ((seq_nx ((if_f' e3).trans rfl)).trans (ret_n (tup2 rfl rfl))))
theorem mk_one {c : Nat} {F : FD} {as : List D} {h : Hm} {d : D} (hl : LowH h) (hd : ∀ n, D.low n d = true) (hF : F (.loc h.length :: as) (h ++ [some (.ins c [])]) = .ok .non (h ++ [some (.ins c [(.numbers, d)])])) : mkD c F as h = .ok (.ins c [(.numbers, d)]) h := by
  unfold mkD
  rw [hF]
  have e1 : Hm.get (h ++ [some (.ins c [(.numbers, d)])]) h.length = some (.ins c [(.numbers, d)]) := by
    rw [Hm.get_app, if_pos rfl]
  simp only [e1]
  have e2 : (h ++ [some (MO.ins c [(.numbers, d)])]).set h.length none = h ++ [none] := by simp
  rw [e2]
  unfold fin1
  have e3 : D.low h.length (.ins c [(.numbers, d)]) = true := by simp [D.low, D.lowf, hd]
  have e4 : (h ++ [(none : Option MO)]).take h.length = h := by simp
  rw [e4, e3, hl]
  rfl
theorem runF_nxs {len : Nat} {m : MS} {as : List D} {e' : Ev} {h h' : Hm} (e : m (as.map some ++ List.replicate (len - as.length) none) h = .nx e' h') (hl : h'.length ≤ h.length) : runF len m as h = .ok .non h' := by
  unfold runF
  rw [e]; exact fin1_same' hl
theorem fld_num {c : Nat} (hc : c < 20) {v : ME} {e : Ev} {h : Hm} {d : D} (he : e[0]? = some (some (.loc h.length))) (hv : v e (h ++ [some (.ins c [])]) = .ok d (h ++ [some (.ins c [])])) : sFld .numbers (mVar 0) v e (h ++ [some (.ins c [])]) = .nx e (h ++ [some (.ins c [(.numbers, d)])]) := by
  have e1 : Hm.get (h ++ [some (.ins c [])]) h.length = some (.ins c []) := by
    rw [Hm.get_app, if_pos rfl]
  simp only [sFld, hv, mVar, he, e1, List.length_nil, putFD]
  rw [if_pos ⟨hc, by omega⟩]
  simp
theorem q_LateLost {a b : Nat} (hab : a + b ≤ 4) {h : Hm} (hl : LowH h) : C_LateLost_2 [N a, N b] h = .ok (eN 4 a b) h := by
  refine mk_one hl (fun _ => rfl) (fd_st (F := runF 3 m_xLateLostDUinitU) (runF_nxs (len := 3) (m := m_xLateLostDUinitU) (as := [.loc h.length, N a, N b]) (e' := [some (.loc h.length), some (N a), some (N b)]) ?_ (by simp)) rfl)
  show m_xLateLostDUinitU [some (.loc h.length), some (N a), some (N b)] _ = _
  exact fld_num (by omega) rfl (call2 rfl rfl (q_numbers hab))
theorem q_Late {a : Nat} (hab : a ≤ 4) {h : Hm} (hl : LowH h) : C_Late_1 [N a] h = .ok (eN 2 a 0) h := by
  refine mk_one hl (fun _ => rfl) (fd_st (F := runF 2 m_xLateDUinitU) (runF_nxs (len := 2) (m := m_xLateDUinitU) (as := [.loc h.length, N a]) (e' := [some (.loc h.length), some (N a)]) ?_ (by simp)) rfl)
  show m_xLateDUinitU [some (.loc h.length), some (N a)] _ = _
  exact fld_num (by omega) rfl (call2 rfl rfl (q_numbers (a := a) (b := 0) (by omega)))
theorem q_Lost {a : Nat} (hab : a ≤ 4) {h : Hm} (hl : LowH h) : C_Lost_1 [N a] h = .ok (eN 3 0 a) h := by
  refine mk_one hl (fun _ => rfl) (fd_st (F := runF 2 m_xLostDUinitU) (runF_nxs (len := 2) (m := m_xLostDUinitU) (as := [.loc h.length, N a]) (e' := [some (.loc h.length), some (N a)]) ?_ (by simp)) rfl)
  show m_xLostDUinitU [some (.loc h.length), some (N a)] _ = _
  exact fld_num (by omega) rfl (call2 rfl rfl (q_numbers (a := 0) (b := a) (by omega)))
/-! ### the law's own -/
theorem call3 {F : FD} {x y z : ME} {e : Ev} {h h1 h2 h3 h4 : Hm} {u v w r : D} (hx : x e h = .ok u h1) (hy : y e h1 = .ok v h2) (hz : z e h2 = .ok w h3) (hf : F [u, v, w] h3 = .ok r h4) : mL F (aCons x (aCons y (aCons z aNil))) e h = .ok r h4 := by
  simp only [mL, aCons, aNil, hx, hy, hz, Res.bind, hf]
theorem if_no {c : MT} {a : MS} {e : Ev} {h h1 : Hm} (hc : c e h = .ok false h1) : sIf c a sNil e h = .nx e h1 := (if_f' hc).trans rfl
theorem notT {a : ME} {e : Ev} {h h1 : Hm} (ha : a e h = .ok (.bl true) h1) : mNotT (mTr a) e h = .ok false h1 := not_b (tr_b ha)
end Law
end MP
end L2

set_option Elab.async false
set_option linter.all false
set_option maxRecDepth 100000
set_option maxHeartbeats 4000000
namespace L2
namespace MP
namespace Law
open PySem PySem.Spec PyProof.Rows
/-- the loop over the cells -/
theorem outer {body : MS} {ns : List Int} {cap : Int} (hcap : 1 ≤ cap ∧ cap ≤ 1000) (J : Ev → Prop) (H : ∀ (k : Nat) (e : Ev) (h : Hm), J e → LowH h → ∃ e2 h2, body (e.set 1 (some (N k))) h = .nx e2 h2 ∧ J e2 ∧ LowH h2) {e : Ev} (he : e[0]? = some (some (.scr ns))) (hJ : J e) :
    ∃ e2 h2, sFor (iRange1 (mL (f2 fMax2) (aCons (mC (.int 1)) (aCons (mL (f2 fMin2) (aCons (mL (f1 fLen) (aCons (mVar 0) (aNil))) (aCons (mC (.int cap)) (aNil)))) (aNil))))) (gN 1) body e [] = .nx e2 h2 := by
  have e1 := len_scr (x := mVar 0) (e := e) (h := []) (ns := ns) (v_at he)
  have e2 : mL (f2 fMin2) (aCons (mL (f1 fLen) (aCons (mVar 0) (aNil))) (aCons (mC (.int cap)) (aNil))) e [] = .ok (.int (if cap < ns.length then cap else ns.length)) [] := call2 e1 c_i rfl
  generalize hM0 : (if cap < (ns.length : Int) then cap else (ns.length : Int)) = M0 at e2
  have b0 : 0 ≤ M0 ∧ M0 ≤ 1000 := by subst hM0; split <;> omega
  have e3 : mL (f2 fMax2) (aCons (mC (.int 1)) (aCons (mL (f2 fMin2) (aCons (mL (f1 fLen) (aCons (mVar 0) (aNil))) (aCons (mC (.int cap)) (aNil)))) (aNil))) e [] = .ok (.int (if M0 > 1 then M0 else 1)) [] := call2 c_i e2 rfl
  generalize hM : (if M0 > 1 then M0 else 1) = M at e3
  have b1 : 0 ≤ M ∧ M ≤ 1000 := by subst hM; split <;> omega
  rw [sFor_ok (iRange_I e3 b1.1 (by omega)), rngD_N]
  obtain ⟨e4, h4, f, _⟩ := forL_pred (t := gN 1) (body := body) (fun e h => J e ∧ LowH h) (xs := (List.range M.toNat).map N) (e := e) (h := []) (by
    intro x hx e h hi
    obtain ⟨k, _, rfl⟩ := List.mem_map.mp hx
    obtain ⟨e2, h2, a, b, c⟩ := H k e h hi.1 hi.2
    exact ⟨_, e2, h2, rfl, a, b, c⟩) ⟨hJ, lowH_nil⟩
  exact ⟨e4, h4, f⟩
theorem fin_true {h : Hm} : ∃ h', fin1 0 (.bl true) h = .ok (.bl true) h' := by
  unfold fin1
  split <;> exact ⟨_, rfl⟩
/-- a pen of one's own for each cell -/
theorem pen_ps {h : Hm} (q : LowH h) (c : Int) : ∃ h', PS h h' ∧ F_x_law_pen_1 [.int c] h = .ok (.loc h.length) h' := by
  obtain ⟨a, b, e, ha, hb, hb2⟩ := pen (h := h) c
  exact ⟨_, ⟨q, a, b, 0, rfl, ha, hb, hb2⟩, e⟩
theorem pen_set {h : Hm} (q : LowH h) {ns : List Int} {k : Nat} {e : Ev} (h0 : e[0]? = some (some (.scr ns))) (h1 : e[1]? = some (some (N k))) : ∃ h', PS h h' ∧ sSet 2 (mL F_x_law_pen_1 (aCons (mL F_x_law_cell_at_2 (aCons (mVar 0) (aCons (mVar 1) (aNil)))) (aNil))) e h = .nx (e.set 2 (some (.loc h.length))) h' := by
  obtain ⟨c, e1⟩ := cell (h := h) (ns := ns) (k := (k : Int)) (by omega)
  obtain ⟨h', q', e2⟩ := pen_ps q c
  exact ⟨h', q', set_n (call1 (call2 (v_at h0) (v_at h1) e1) e2)⟩
end Law
end MP
end L2

set_option Elab.async false
set_option linter.all false
set_option maxRecDepth 100000
set_option maxHeartbeats 4000000
namespace L2
namespace MP
namespace Law
open PySem PySem.Spec PyProof.Rows
theorem d_row {h0 h : Hm} (q : PS h0 h) {k m : Nat} (k1 : 1 ≤ k) (k2 : k ≤ 100) (hm : m ≤ 100) : ∃ (r : List Nat) (h' : Hm), r.length ≤ m ∧ (∀ o ∈ r, o < k) ∧ PS h0 h' ∧ F_x_law_row_3 [.loc h0.length, N k, N m] h = .ok (eT r) h' := by
  obtain ⟨n, g1, hn, q1, e1⟩ := d_draw q (m := m + 1) (by omega) (by omega)
  have am : m2 fAddG (mVar 2) (mC (.int 1)) [some (.loc h0.length), some (N k), some (N m), none] h = .ok (N (m + 1)) h := by
    refine tM2 (tV rfl) rfl (fAddG_I.trans ?_)
    rw [show ((m : Int) + 1) = ((m + 1 : Nat) : Int) by omega]
  have dm : mL F_x_law_draw_2 (aCons (mVar 0) (aCons (m2 fAddG (mVar 2) (mC (.int 1))) (aNil))) [some (.loc h0.length), some (N k), some (N m), none] h = .ok (N n) g1 := tL2 (tV rfl) am e1
  obtain ⟨us, g2, l, hu, q2, e2⟩ := comp_st (mi := iRange1 (mL F_x_law_draw_2 (aCons (mVar 0) (aCons (m2 fAddG (mVar 2) (mC (.int 1))) (aNil))))) (t := gN 3) (elt := mL F_x_law_draw_2 (aCons (mVar 0) (aCons (mVar 1) (aNil)))) (e := [some (.loc h0.length), some (N k), some (N m), none]) (vs := [3]) (en := N) (ev := N) (xs := List.range n) (h := h) (h1 := g1) (fun x => x < k) (PS h0) (iRange_N dm (by omega)) (by unfold LIM; simp; omega) (fun x hx g qg => by
    obtain ⟨r, g', hr, qg', e⟩ := d_draw qg (m := k) k1 (by omega)
    exact ⟨[some (.loc h0.length), some (N k), some (N m), some (N x)], r, g', rfl, tL2 (tV rfl) (tV rfl) e, hr, qg'⟩) q1
  rw [List.length_range] at l
  refine ⟨us, g2, by omega, hu, q2, fd_st (F := runF 4 m_x_law_row) (runF_st (len := 4) (m := m_x_law_row) (as := [.loc h0.length, N k, N m]) ?_ (by rw [q2.len, q.len]; exact Nat.le_refl _)) rfl⟩
  show m_x_law_row [some (.loc h0.length), some (N k), some (N m), none] h = _
  exact tRet (tL1 e2 rfl)
end Law
end MP
end L2

set_option Elab.async false
set_option linter.all false
set_option maxRecDepth 100000
set_option maxHeartbeats 4000000
namespace L2
namespace MP
namespace Law
open PySem PySem.Spec PyProof.Rows
/-! ### calls of news and of plants, drawn news -/
section
variable {p : PF.Pl} (ok : p.Ok)
include ok
theorem q_need_order {o : Nat} (ho : o < p.k) {h : Hm} : F_xneed_order_2 [ePl p, N o] h = .ok .non h := by
  refine fr_ok (F := runF 2 m_xneed_order) (runF_nx0 (e' := [some (ePl p), some (N o)]) (h := []) ?_) (by simp [D.lows, low_ePl, low_N]) rfl h
  show m_xneed_order [some (ePl p), some (N o)] [] = _
  exact (tIfF (tNot (tTr (tL2 (tV rfl) (tV rfl) (q_order ok ho))))).trans rfl
theorem q_callN {c a b : Nat} (hc : NewsC c) (hab : a + b ≤ 4) {s : PF.Sit} {o : Nat} (hs : PF.SOk p (a + b) s) (ho : o < p.k) {h : Hm} : F_xNewsDUcallU_4 [eN c a b, ePl p, eS s, N o] h = .ok (eSs (PF.nextIn a b p s o)) h := by
  refine runF_rt (len := 4) (m := m_xNewsDUcallU) (as := [eN c a b, ePl p, eS s, N o]) ?_
  show m_xNewsDUcallU [some (eN c a b), some (ePl p), some (eS s), some (N o)] h = _
  have p1 := p_late hc (a := a) (b := b) (m := mVar 0) (e := [some (eN c a b), some (ePl p), some (eS s), some (N o)]) (h := h) (h1 := h) rfl
  have p2 := p_lost hc (a := a) (b := b) (m := mVar 0) (e := [some (eN c a b), some (ePl p), some (eS s), some (N o)]) (h := h) (h1 := h) rfl
  have ad : m2 fAddG (mProp (TBL.f P_late) (mVar 0)) (mProp (TBL.f P_lost) (mVar 0)) [some (eN c a b), some (ePl p), some (eS s), some (N o)] h = .ok (N (a + b)) h :=
    tM2 p1 p2 (fAddG_I.trans (by rw [show ((a : Int) + (b : Int)) = ((a + b : Nat) : Int) by omega]))
  have s1 := tExpr (tL1 (F := F_xneed_plant_1) (x := mVar 1) (e := [some (eN c a b), some (ePl p), some (eS s), some (N o)]) (h := h) (tV rfl) q_need_plant)
  have s2 := tExpr (tL3 (F := F_xneed_situation_3) (x := mVar 1) (y := mVar 2) (e := [some (eN c a b), some (ePl p), some (eS s), some (N o)]) (h := h) (tV rfl) (tV rfl) ad (q_need_situation ok (by omega) hs))
  have s3 := tExpr (tL2 (F := F_xneed_order_2) (x := mVar 1) (y := mVar 3) (e := [some (eN c a b), some (ePl p), some (eS s), some (N o)]) (h := h) (tV rfl) (tV rfl) (q_need_order ok ho))
  unfold m_xNewsDUcallU
  exact (seq_nx s1).trans ((seq_nx s2).trans ((seq_nx s3).trans (tRet (tL4 (tV rfl) (tV rfl) (tV rfl) (tV rfl) (q_next ok hc hab hs ho)))))
theorem call_N {c a b : Nat} (hc : NewsC c) (hab : a + b ≤ 4) {s : PF.Sit} {o : Nat} (hs : PF.SOk p (a + b) s) (ho : o < p.k) {m : ME} {ma : MA} {e : Ev} {h h1 h2 : Hm} (hm : m e h = .ok (eN c a b) h1) (ha : ma e h1 = .ok [ePl p, eS s, N o] h2) : mCallO (TBL.f T_call_4) m ma e h = .ok (eSs (PF.nextIn a b p s o)) h2 :=
  tCallO (F := F_xNewsDUcallU_4) hm (by rcases hc with rfl | rfl | rfl <;> rfl) ha (q_callN ok hc hab hs ho)
end
/-! ### the law's news -/
theorem t_and0 {x y : Nat} {i j : Nat} {e : Ev} {h : Hm} (hi : e[i]? = some (some (N x))) (hj : e[j]? = some (some (N y))) : mAndT (mB (m2 fEq (mVar i) (mC (.int 0)))) (mB (m2 fEq (mVar j) (mC (.int 0)))) e h = .ok (x == 0 && y == 0) h := by
  have e1 : mB (m2 fEq (mVar i) (mC (.int 0))) e h = .ok (x == 0) h := tB (tM2 (tV hi) rfl (fEq_I.trans (by rw [show ((0 : Int)) = ((0 : Nat) : Int) from rfl, beq_NN])))
  have e2 : mB (m2 fEq (mVar j) (mC (.int 0))) e h = .ok (y == 0) h := tB (tM2 (tV hj) rfl (fEq_I.trans (by rw [show ((0 : Int)) = ((0 : Nat) : Int) from rfl, beq_NN])))
  cases hx : (x == 0) with
  | false => rw [hx] at e1; exact tAndF e1
  | true => rw [hx] at e1; exact tAndT e1 e2
theorem q_news {a b t : Nat} (hab : a + b ≤ 4) : ∃ c, NewsC c ∧ ∀ h, F_x_law_news_3 [N a, N b, N t] h = .ok (eN c a b) h := by
  suffices H : ∃ c, NewsC c ∧ m_x_law_news [some (N a), some (N b), some (N t)] [] = .rt (eN c a b) [] by
    obtain ⟨c, hc, H⟩ := H
    exact ⟨c, hc, fun h => fr_ok (F := runF 3 m_x_law_news) (runF_rt0 (len := 3) (as := [N a, N b, N t]) H low_eN) rfl rfl h⟩
  have e1 := t_and0 (x := b) (y := t) (i := 1) (j := 2) (e := [some (N a), some (N b), some (N t)]) (h := []) rfl rfl
  have e2 := t_and0 (x := a) (y := t) (i := 0) (j := 2) (e := [some (N a), some (N b), some (N t)]) (h := []) rfl rfl
  unfold m_x_law_news
  cases h1 : (b == 0 && t == 0) with
  | true =>
    rw [h1] at e1
    simp at h1
    obtain ⟨rfl, rfl⟩ := h1
    exact ⟨2, .inl rfl, tSeqR ((tIfT e1).trans (tRet (tL1 (tV rfl) (q_Late (by omega) lowH_nil))))⟩
  | false =>
    rw [h1] at e1
    have s1 : sIf (mAndT (mB (m2 fEq (mVar 1) (mC (.int 0)))) (mB (m2 fEq (mVar 2) (mC (.int 0))))) (sRet (mL C_Late_1 (aCons (mVar 0) (aNil)))) (sNil) [some (N a), some (N b), some (N t)] [] = .nx [some (N a), some (N b), some (N t)] [] := (tIfF e1).trans rfl
    cases h2 : (a == 0 && t == 0) with
    | true =>
      rw [h2] at e2
      simp at h2
      obtain ⟨rfl, rfl⟩ := h2
      exact ⟨3, .inr (.inl rfl), (seq_nx s1).trans (tRet (tMIfT e2 (tL1 (tV rfl) (q_Lost (by omega) lowH_nil))))⟩
    | false =>
      rw [h2] at e2
      exact ⟨4, .inr (.inr rfl), (seq_nx s1).trans (tRet (tMIfF e2 (tL2 (tV rfl) (tV rfl) (q_LateLost hab lowH_nil))))⟩
theorem d_numbers {h0 h : Hm} (q : PS h0 h) : ∃ (a b : Nat) (h' : Hm), a + b ≤ 4 ∧ PS h0 h' ∧ F_x_law_numbers_2 [.loc h0.length, N 4] h = .ok (.tup [N a, N b]) h' := by
  obtain ⟨a, g1, ha, q1, e1⟩ := d_draw q (m := 5) (by omega) (by omega)
  obtain ⟨b, g2, hb, q2, e2⟩ := d_draw q1 (m := 5 - a) (by omega) (by omega)
  refine ⟨a, b, g2, by omega, q2, fd_st (F := runF 3 m_x_law_numbers) (runF_st (len := 3) (m := m_x_law_numbers) (as := [.loc h0.length, N 4]) ?_ (by rw [q2.len, q.len]; exact Nat.le_refl _)) rfl⟩
  show m_x_law_numbers [some (.loc h0.length), some (N 4), none] h = _
  have a5 : ∀ (x : Option D) (g : Hm), m2 fAddG (mVar 1) (mC (.int 1)) [some (.loc h0.length), some (N 4), x] g = .ok (N 5) g := fun x g => rfl
  have s1 := tSet (i := 2) (tL2 (F := F_x_law_draw_2) (x := mVar 0) (y := m2 fAddG (mVar 1) (mC (.int 1))) (e := [some (.loc h0.length), some (N 4), none]) (h := h) (tV rfl) (a5 _ _) e1)
  have a6 : m2 fSub (m2 fAddG (mVar 1) (mC (.int 1))) (mVar 2) [some (.loc h0.length), some (N 4), some (N a)] g1 = .ok (N (5 - a)) g1 := tM2 (a5 _ _) (tV rfl) (fSub_N (by omega))
  unfold m_x_law_numbers
  exact (seq_nx s1).trans (tRet (tTup2 (tV rfl) (tL2 (tV rfl) a6 e2)))
theorem p_places {p : PF.Pl} (ok : p.Ok) {a : ME} {e : Ev} {h h1 : Hm} (ha : a e h = .ok (ePl p) h1) : mProp (TBL.f P_places) a e h = .ok (N p.n) h1 := by
  have e2 : F_xPlantDplaces_1 [ePl p] h1 = .ok (N p.n) h1 := by
    refine runF_rt (len := 1) (m := m_xPlantDplaces) (as := [ePl p]) ?_
    show m_xPlantDplaces [some (ePl p)] h1 = _
    exact tRet (tL1 (tM1 (F := fFld .rows) (tV rfl) (show fFld .rows (ePl p) h1 = .ok (eM p.mv) h1 from rfl)) len_M)
  have e1 : (clsOf h1 (ePl p)).bind (TBL.f P_places) = some F_xPlantDplaces_1 := rfl
  simp only [mProp, ha, Res.bind, e1, e2, nox]
end Law
end MP
end L2

set_option Elab.async false
set_option linter.all false
set_option maxRecDepth 100000
set_option maxHeartbeats 4000000
namespace L2
namespace MP
namespace Law
open PySem PySem.Spec PyProof.Rows
/-! ### the law's own looks: led, after -/
theorem fLstOf_L {xs : List D} {h : Hm} : f1 fLstOf [.lst xs] h = .ok (.lst xs) h := rfl
abbrev ledB : MS := sSet 3 (m2 fAddG (mVar 3) (mComp (iAny (m2 fIxD (m2 fIxD (mVar 0) (mVar 4)) (mVar 2))) (gN 5) (mB (m2 (fMem true) (mVar 5) (mVar 3))) (mVar 5) [5]))
theorem q_lled {p : PF.Pl} (ok : p.Ok) {ps : List Nat} {o : Nat} (hp : ∀ x ∈ ps, x < p.n) (ho : o < p.k) {h : Hm} : F_x_law_led_3 [eM p.mv, eL ps, N o] h = .ok (eL (PF.led p ps o)) h := by
  refine fr_ok (F := runF 6 m_x_law_led) (runF_rt0 (h := []) ?_ low_eL) (by simp [D.lows, low_eM, low_eL, low_N]) rfl h
  show m_x_law_led [some (eM p.mv), some (eL ps), some (N o), none, none, none] [] = _
  have n6 : p.n ≤ 6 := ok.n6
  have f := forL_fold (en := N) (t := gN 4) (body := ledB) (fun s : List Nat × Option D => [some (eM p.mv), some (eL ps), some (N o), some (eL s.1), s.2, none]) (fun _ => []) (fun s x => (PF.dd s.1 (PF.ans p x o), some (N x))) (fun s => s.1.Nodup ∧ ∀ y ∈ s.1, y < p.n) (xs := ps) (s := ([], none)) (by
    rintro ⟨fnd, z⟩ x hx ⟨h1, h2⟩
    have hx' : x < p.n := hp x hx
    have ha := PF.ans_ok ok hx' ho
    have hal := PF.asc_len ha.2.1 ha.2.2
    have hfl := PF.nodup_lt_len h1 h2
    have e2 : m2 fIxD (m2 fIxD (mVar 0) (mVar 4)) (mVar 2) [some (eM p.mv), some (eL ps), some (N o), some (eL fnd), some (N x), none] [] = .ok (eT (PF.ans p x o)) [] := by
      have hx'' : x < p.mv.length := hx'
      have hr := ok.rows _ (List.getElem_mem hx'')
      have ho' : o < (p.mv[x]).length := by rw [hr]; exact ho
      have e1 : p.mv[x]? = some p.mv[x] := by simp [hx'']
      have e2 : (p.mv[x])[o]? = some (PF.ans p x o) := by
        unfold PF.ans
        simp [List.getD, hx'', ho']
      exact tM2 (tM2 (tV rfl) (tV rfl) (ix_M e1)) (tV rfl) (ix_R e2)
    have cc := comp_filter (mi := iAny (m2 fIxD (m2 fIxD (mVar 0) (mVar 4)) (mVar 2))) (t := gN 5) (cond := mB (m2 (fMem true) (mVar 5) (mVar 3))) (elt := mVar 5) (vs := [5]) (e := [some (eM p.mv), some (eL ps), some (N o), some (eL fnd), some (N x), none]) (h := []) (h1 := []) (xs := PF.ans p x o) (en := N) (f := N) (c := fun z => !fnd.contains z) (iAny_t e2) (by unfold LIM; omega) (fun z hz => ⟨_, rfl, tB ((tM2 (tV rfl) (tV rfl) fMem_L).trans (by simp)), fun _ => tV rfl⟩)
    refine ⟨⟨PF.dd_nodup h1 (ha.2.1.imp fun h => by omega), fun y hy => ?_⟩, _, rfl, ?_⟩
    · rcases PF.mem_dd.mp hy with h | h
      · exact h2 y h
      · exact ha.2.2 y h
    · refine (tSet (i := 3) (tM2 (tV rfl) cc (fAdd_L ?_))).trans rfl
      have := List.length_filter_le (fun z => !fnd.contains z) (PF.ans p x o)
      omega) ⟨by simp, by simp⟩
  obtain ⟨nd, lt, mem⟩ := PF.dd_fold ok (o := o) ho (ps := ps) hp (fnd := []) (z := (none : Option D)) (g := fun x => some (N x)) (by simp) (by simp)
  have hl := PF.nodup_lt_len nd lt
  generalize hG : ps.foldl (fun s x => (PF.dd s.1 (PF.ans p x o), some (N x))) (([], none) : List Nat × Option D) = G at f nd lt mem hl
  have hs : PF.sortU G.1 = PF.led p ps o := by
    refine PF.asc_ext PF.asc_sortU PF.asc_led fun y => ?_
    rw [PF.mem_sortU, mem, PF.mem_led]
    simp
  have s1 : sSet 3 (mLst (aNil)) [some (eM p.mv), some (eL ps), some (N o), none, none, none] [] = .nx [some (eM p.mv), some (eL ps), some (N o), some (eL []), none, none] [] := tSet (i := 3) tLst0
  unfold m_x_law_led
  refine (seq_nx s1).trans ((seq_nx ((sFor_ok (iAny_l (xs := ps.map N) (h1 := []) rfl)).trans f)).trans (tRet (tL1 (tV rfl) ?_)))
  rw [← hs]
  exact fSortA_N nd (by omega) rfl rfl rfl
theorem q_lafter {p : PF.Pl} (ok : p.Ok) {ps row : List Nat} (hp : ∀ x ∈ ps, x < p.n) (ho : ∀ o ∈ row, o < p.k) {h : Hm} : F_x_law_after_3 [eM p.mv, eL ps, eT row] h = .ok (eL (PF.after p ps row)) h := by
  refine fr_ok (F := runF 4 m_x_law_after) (runF_rt0 (h := []) ?_ low_eL) (by simp [D.lows, low_eM, low_eL, low_eT]) rfl h
  show m_x_law_after [some (eM p.mv), some (eL ps), some (eT row), none] [] = _
  have f := forL_fold (t := gN 3) (en := N) (body := sSet 1 (mL F_x_law_led_3 (aCons (mVar 0) (aCons (mVar 1) (aCons (mVar 3) (aNil)))))) (fun s : List Nat × Option D => [some (eM p.mv), some (eL s.1), some (eT row), s.2]) (fun _ => []) (fun s o => (PF.led p s.1 o, some (N o))) (fun s => ∀ x ∈ s.1, x < p.n) (xs := row) (s := (ps, none)) (by
    rintro ⟨acc, z⟩ o hx h1
    exact ⟨PF.led_lt ok h1 (ho o hx), _, rfl, (tSet (i := 1) (tL3 (tV rfl) (tV rfl) (tV rfl) (q_lled ok h1 (ho o hx)))).trans rfl⟩) hp
  have hfold : ∀ (l : List Nat) (s : List Nat × Option D), (l.foldl (fun s o => (PF.led p s.1 o, some (N o))) s).1 = PF.after p s.1 l := by
    intro l
    induction l with
    | nil => intro s; rfl
    | cons o l ih => intro s; rw [List.foldl_cons, ih]; rfl
  unfold m_x_law_after
  refine (seq_nx ((sFor_ok (iAny_t (xs := row.map N) (h1 := []) rfl)).trans f)).trans (tRet (tL1 (tV rfl) ?_))
  rw [← hfold row (ps, none)]
  exact fLstOf_L
end Law
end MP
end L2

set_option Elab.async false
set_option linter.all false
set_option maxRecDepth 100000
set_option maxHeartbeats 4000000
namespace L2
namespace MP
namespace Law
open PySem PySem.Spec PyProof.Rows
/-! ### repr of news -/
def dg (n : Nat) : List Nat := textL (toString (n : Int) : String)
theorem fmt_small : ∀ n : Nat, n < 5 → (dg n).length ≤ 10 ∧ (dg n).all (fun c => decide (c < 1114112)) = true ∧ (n : Int).natAbs.log2 < 1000 := by decide +kernel
theorem tFmt {n : Nat} (hn : n < 5) {m : ME} {e : Ev} {h h1 : Hm} (hm : m e h = .ok (N n) h1) : m1 fFmt m e h = .ok (.str (dg n)) h1 := by
  refine tM1 hm ?_
  have := (fmt_small n hn).2.2
  unfold fFmt txtOf
  simp only [this, if_true]
  rfl
theorem tJs {m : ME} {ms : List ME} {acc y : List Nat} {e : Ev} {h h1 : Hm} {r : Res D} (hm : m e h = .ok (.str y) h1) (hl : (acc ++ y).length ≤ 1000) (hr : jsL ms (acc ++ y) e h1 = r) : jsL (m :: ms) acc e h = r := by
  unfold jsL
  rw [hm]
  simp only [Res.bind, hl, if_true, hr]
theorem repr_news {c a b : Nat} (hc : NewsC c) (hab : a + b ≤ 4) : ∃ s : List Nat, s.all (fun c => decide (c < 1114112)) = true ∧ ∀ h, fReprI (TBL.f T_repr) (eN c a b) h = .ok (.str s) h := by
  obtain ⟨a1, a2, _⟩ := fmt_small a (by omega)
  obtain ⟨b1, b2, _⟩ := fmt_small b (by omega)
  rcases hc with rfl | rfl | rfl
  · refine ⟨[76, 97, 116, 101, 40] ++ dg a ++ [41], by simp only [List.all_append, a2]; decide, fun h => ?_⟩
    have e1 : (clsOf h (eN 2 a b)).bind (TBL.f T_repr) = some F_xLateDUreprU_1 := rfl
    have e2 : F_xLateDUreprU_1 [eN 2 a b] h = .ok (.str ([76, 97, 116, 101, 40] ++ dg a ++ [41])) h := by
      refine runF_rt (len := 1) (m := m_xLateDUreprU) (as := [eN 2 a b]) ?_
      show m_xLateDUreprU [some (eN 2 a b)] h = _
      refine tRet (tJs rfl (by simp) (tJs (tFmt (by omega) (p_late (.inl rfl) (tV rfl))) (by simp; omega) (tJs rfl (by simp; omega) rfl)))
    simp only [fReprI, e1, e2, nox, Res.bind]
  · refine ⟨[76, 111, 115, 116, 40] ++ dg b ++ [41], by simp only [List.all_append, b2]; decide, fun h => ?_⟩
    have e1 : (clsOf h (eN 3 a b)).bind (TBL.f T_repr) = some F_xLostDUreprU_1 := rfl
    have e2 : F_xLostDUreprU_1 [eN 3 a b] h = .ok (.str ([76, 111, 115, 116, 40] ++ dg b ++ [41])) h := by
      refine runF_rt (len := 1) (m := m_xLostDUreprU) (as := [eN 3 a b]) ?_
      show m_xLostDUreprU [some (eN 3 a b)] h = _
      refine tRet (tJs rfl (by simp) (tJs (tFmt (by omega) (p_lost (.inr (.inl rfl)) (tV rfl))) (by simp; omega) (tJs rfl (by simp; omega) rfl)))
    simp only [fReprI, e1, e2, nox, Res.bind]
  · refine ⟨[76, 97, 116, 101, 76, 111, 115, 116, 40] ++ dg a ++ [44, 32] ++ dg b ++ [41], by simp only [List.all_append, a2, b2]; decide, fun h => ?_⟩
    have e1 : (clsOf h (eN 4 a b)).bind (TBL.f T_repr) = some F_xLateLostDUreprU_1 := rfl
    have e2 : F_xLateLostDUreprU_1 [eN 4 a b] h = .ok (.str ([76, 97, 116, 101, 76, 111, 115, 116, 40] ++ dg a ++ [44, 32] ++ dg b ++ [41])) h := by
      refine runF_rt (len := 1) (m := m_xLateLostDUreprU) (as := [eN 4 a b]) ?_
      show m_xLateLostDUreprU [some (eN 4 a b)] h = _
      refine tRet (tJs rfl (by simp) (tJs (tFmt (by omega) (p_late (.inr (.inr rfl)) (tV rfl))) (by simp; omega) (tJs rfl (by simp; omega) (tJs (tFmt (by omega) (p_lost (.inr (.inr rfl)) (tV rfl))) (by simp; omega) (tJs rfl (by simp; omega) rfl)))))
    simp only [fReprI, e1, e2, nox, Res.bind]
theorem fEq_str {s : List Nat} (hs : s.all (fun c => decide (c < 1114112)) = true) {h : Hm} : fEq (.str s) (.str s) h = .ok (.bl true) h :=
  (fEq_plain (h := h) (a := .str s) (b := .str s) hs hs).trans (by simp [deref, D.eqv])
end Law
end MP
end L2

set_option Elab.async false
set_option linter.all false
set_option maxRecDepth 100000
set_option maxHeartbeats 4000000
namespace L2
namespace MP
namespace Law
open PySem PySem.Spec PyProof.Rows
theorem low_eLs {n : Nat} {l : List PF.Sit} : D.low n (eLs l) = true := lows_map (fun _ => low_eS) l
theorem q_lnext {p : PF.Pl} (ok : p.Ok) {a b : Nat} (hab : a + b ≤ 4) {s : PF.Sit} {o : Nat} (hs : PF.SOk p (a + b) s) (ho : o < p.k) {h : Hm} : F_x_law_next_5 [eM p.mv, N a, N b, eS s, N o] h = .ok (eLs (PF.nextIn a b p s o)) h := by
  refine fr_ok (F := runF 9 m_x_law_next) (runF_rt0 (h := []) ?_ low_eLs) (by simp [D.lows, low_eM, low_eS, low_N]) rfl h
  show m_x_law_next [some (eM p.mv), some (N a), some (N b), some (eS s), some (N o), none, none, none, none] [] = _
  have hrow := PF.row1 hs ho
  have hsl := hs.len
  have hlen : (s.2 ++ [o]).length = s.2.length + 1 := by simp
  have n6 : p.n ≤ 6 := ok.n6
  have s1 : sSet 5 (m2 fAddG (m2 fIxD (mVar 3) (mC (.int 1))) (mTup (aCons (mVar 4) (aNil)))) [some (eM p.mv), some (N a), some (N b), some (eS s), some (N o), none, none, none, none] [] = .nx [some (eM p.mv), some (N a), some (N b), some (eS s), some (N o), some (eT (s.2 ++ [o])), none, none, none] [] :=
    tSet (i := 5) (tM2 (tM2 (tV rfl) rfl ix_S1) (tTup1 (tV rfl)) (fAdd_T1 (by omega)))
  have s2 : sSet 6 (m2 fSub (mL (f1 fLen) (aCons (mVar 5) (aNil))) (mVar 1)) [some (eM p.mv), some (N a), some (N b), some (eS s), some (N o), some (eT (s.2 ++ [o])), none, none, none] [] = .nx [some (eM p.mv), some (N a), some (N b), some (eS s), some (N o), some (eT (s.2 ++ [o])), some (.int (((s.2 ++ [o]).length : Int) - (a : Int))), none, none] [] :=
    tSet (i := 6) (tM2 (tL1 (F := f1 fLen) (tV rfl) fLen_eT) (tV rfl) rfl)
  have c3 : mB (m2 fLt (mVar 6) (mC (.int 1))) [some (eM p.mv), some (N a), some (N b), some (eS s), some (N o), some (eT (s.2 ++ [o])), some (.int (((s.2 ++ [o]).length : Int) - (a : Int))), none, none] [] = .ok (decide (((s.2 ++ [o]).length : Int) - (a : Int) < 1)) [] := tB (tM2 (tV rfl) rfl rfl)
  have last : ∀ v w z, mLst (aCons (mTup (aCons (m2 fIxD (mVar 3) (mC (.int 0))) (aCons (mVar 5) (aNil)))) (aNil)) [some (eM p.mv), some (N a), some (N b), some (eS s), some (N o), some (eT (s.2 ++ [o])), v, w, z] [] = .ok (.lst [eS (s.1, s.2 ++ [o])]) [] := fun v w z => tLst1 (tTup2 (tM2 (tV rfl) rfl ix_S0) (tV rfl))
  unfold m_x_law_next
  refine (seq_nx s1).trans ((seq_nx s2).trans ?_)
  unfold PF.nextIn PF.dueIn
  by_cases hq : (s.2 ++ [o]).length < a + 1
  · rw [decide_eq_true (by omega)] at c3
    simp only [if_pos hq, if_true]
    exact tSeqR ((tIfT c3).trans (tRet (last _ _ _)))
  · rw [decide_eq_false (by omega)] at c3
    have d2 : (((s.2 ++ [o]).length : Int) - (a : Int)) = (((s.2 ++ [o]).length - a : Nat) : Int) := by omega
    rw [d2] at c3 ⊢
    generalize hcut : (s.2 ++ [o]).length - a = cut at c3 ⊢
    simp only [if_neg hq]
    have hA := q_lafter ok (ps := [s.1]) (row := (s.2 ++ [o]).take cut) (by simpa using hs.at_) (fun x hx => hrow x (List.mem_of_mem_take hx)) (h := [])
    have alt := PF.after_lt ok (ps := [s.1]) (row := (s.2 ++ [o]).take cut) (by simpa using hs.at_) (fun x hx => hrow x (List.mem_of_mem_take hx))
    have hal := PF.asc_len (PF.asc_after (p := p) (ps := [s.1]) (row := (s.2 ++ [o]).take cut) (by simp)) alt
    have hne := PF.after_ne ok (ps := [s.1]) (row := (s.2 ++ [o]).take cut) (by simpa using hs.at_) (fun x hx => hrow x (List.mem_of_mem_take hx)) (by simp)
    generalize PF.after p [s.1] ((s.2 ++ [o]).take cut) = A at hA hal hne alt ⊢
    rw [if_neg hne]
    have cc := comp_map (mi := iAny (mL F_x_law_after_3 (aCons (mVar 0) (aCons (mLst (aCons (m2 fIxD (mVar 3) (mC (.int 0))) (aNil))) (aCons (mSl (mVar 5) (oNone) (oSome (mVar 6))) (aNil)))))) (t := gN 8) (elt := mTup (aCons (mVar 8) (aCons (mSl (mVar 5) (oSome (mVar 6)) (oNone)) (aNil)))) (vs := [8]) (e := [some (eM p.mv), some (N a), some (N b), some (eS s), some (N o), some (eT (s.2 ++ [o])), some (N cut), none, none]) (h := []) (h1 := []) (xs := A) (en := N) (f := fun y => eS (y, (s.2 ++ [o]).drop cut)) (iAny_l (tL3 (tV rfl) (tLst1 (tM2 (tV rfl) rfl ix_S0)) (tSlT rfl (tV rfl)) hA)) (by unfold LIM; omega) (fun y hy => ⟨_, rfl, tTup2 (tV rfl) (tSlD rfl (tV rfl))⟩)
    have s3 := tSet (i := 7) cc
    have le : m2 fLe (mL (f1 fLen) (aCons (mVar 5) (aNil))) (m2 fAddG (mVar 1) (mVar 2)) [some (eM p.mv), some (N a), some (N b), some (eS s), some (N o), some (eT (s.2 ++ [o])), some (N cut), some (.lst (A.map fun y => eS (y, (s.2 ++ [o]).drop cut))), none] [] = .ok (.bl (decide ((s.2 ++ [o]).length ≤ a + b))) [] := by
      refine tM2 (tL1 (F := f1 fLen) (tV rfl) fLen_eT) (tM2 (tV rfl) (tV rfl) fAddG_I) ?_
      show Res.ok (D.bl (decide (((s.2 ++ [o]).length : Int) ≤ (a : Int) + (b : Int)))) [] = _
      rw [show decide (((s.2 ++ [o]).length : Int) ≤ (a : Int) + (b : Int)) = decide ((s.2 ++ [o]).length ≤ a + b) by rw [decide_eq_decide]; omega]
    have mul : m2 fMul (mLst (aCons (mTup (aCons (m2 fIxD (mVar 3) (mC (.int 0))) (aCons (mVar 5) (aNil)))) (aNil))) (mL (f1 fInt) (aCons (m2 fLe (mL (f1 fLen) (aCons (mVar 5) (aNil))) (m2 fAddG (mVar 1) (mVar 2))) (aNil))) [some (eM p.mv), some (N a), some (N b), some (eS s), some (N o), some (eT (s.2 ++ [o])), some (N cut), some (.lst (A.map fun y => eS (y, (s.2 ++ [o]).drop cut))), none] [] = .ok (eLs (if (s.2 ++ [o]).length ≤ a + b then [(s.1, s.2 ++ [o])] else [])) [] := by
      refine tM2 (last _ _ _) (tL1 (F := f1 fInt) le rfl) ?_
      by_cases hk : (s.2 ++ [o]).length ≤ a + b
      · rw [decide_eq_true hk, if_pos hk]; rfl
      · rw [decide_eq_false hk, if_neg hk]; rfl
    have hcat : m2 fAddG (mVar 7) (m2 fMul (mLst (aCons (mTup (aCons (m2 fIxD (mVar 3) (mC (.int 0))) (aCons (mVar 5) (aNil)))) (aNil))) (mL (f1 fInt) (aCons (m2 fLe (mL (f1 fLen) (aCons (mVar 5) (aNil))) (m2 fAddG (mVar 1) (mVar 2))) (aNil)))) [some (eM p.mv), some (N a), some (N b), some (eS s), some (N o), some (eT (s.2 ++ [o])), some (N cut), some (.lst (A.map fun y => eS (y, (s.2 ++ [o]).drop cut))), none] [] = .ok (eLs ((A.map fun y => (y, (s.2 ++ [o]).drop cut)) ++ (if (s.2 ++ [o]).length ≤ a + b then [(s.1, s.2 ++ [o])] else []))) [] := by
      refine tM2 (tV rfl) mul ?_
      generalize hL : (if (s.2 ++ [o]).length ≤ a + b then [(s.1, s.2 ++ [o])] else []) = L
      have hLl : L.length ≤ 1 := by subst hL; split <;> simp
      unfold eLs
      simp only [fAddG, lstH]
      rw [if_pos (by unfold LIM; simp; omega), List.map_append, List.map_map]
      rfl
    generalize hL : (A.map fun y => (y, (s.2 ++ [o]).drop cut)) ++ (if (s.2 ++ [o]).length ≤ a + b then [(s.1, s.2 ++ [o])] else []) = L at hcat ⊢
    have hLl : L.length ≤ 7 := by subst hL; split <;> simp <;> omega
    have hLn : L ≠ [] := by
      subst hL
      cases A with
      | nil => exact absurd rfl hne
      | cons x A => simp
    exact (seq_nx ((tIfF c3).trans rfl)).trans ((seq_nx s3).trans (tRet (tL1 hcat (fSortA_S hLn (by unfold LIM; omega) rfl rfl rfl))))
theorem shS {p : PF.Pl} (ok : p.Ok) {m : Nat} (hm : m ≤ 8) {s : PF.Sit} (hs : PF.SOk p m s) : ShD 2 (10 + 1 + (88 + 1 + 0)) (eS s) := by
  have n6 : p.n ≤ 6 := ok.n6
  have k3 := ok.k3
  have h1 := hs.at_
  have h2 := hs.len
  have hr : ShD 1 88 (eT s.2) := (ShD.eT (k := 0) fun x hx => by have := hs.row x hx; omega).mono (by omega) (by omega)
  exact .tup (.cons (.nat (by omega)) (.cons hr .nil))
theorem shSs {p : PF.Pl} (ok : p.Ok) {m : Nat} (hm : m ≤ 8) {l : List PF.Sit} (hs : ∀ s ∈ l, PF.SOk p m s) (hl : l.length ≤ 10) : ShD 3 2000 (eSs l) :=
  (ShD.tup (.map fun s h => shS ok hm (hs s h))).mono (by omega) (by omega)
theorem shM {p : PF.Pl} (ok : p.Ok) : ShD 3 3000 (eM p.mv) := by
  have n6 := ok.n6
  have k3 := ok.k3
  have ha : ∀ r ∈ p.mv, ∀ a ∈ r, ShD 1 66 (eT a) := fun r hr a h => by
    have q := ok.asc r hr a h
    have l := PF.asc_len q.2.1 q.2.2
    exact (ShD.eT (k := 0) fun x hx => by have := q.2.2 x hx; omega).mono (by omega) (by omega)
  have hr : ∀ r ∈ p.mv, ShD 2 201 (eR r) := fun r hr => (ShD.tup (.map (ha r hr))).mono (by omega) (by have := ok.rows r hr; omega)
  exact (ShD.tup (.map hr)).mono (by omega) (by omega)
theorem shParts {p : PF.Pl} (ok : p.Ok) : ShD 4 10000 (ePts p) := by
  have n6 := ok.n6
  have hb : ∀ l : List Nat, l.Pairwise (· < ·) ∧ (∀ x ∈ l, x < p.mv.length) → ShD 3 66 (eT l) := fun l h => by
    have := PF.asc_len h.1 h.2
    exact (ShD.eT (k := 0) fun x hx => by have := h.2 x hx; omega).mono (by omega) (by omega)
  exact (ShD.tup (.cons (shM ok) (.cons (hb _ ok.bads) (.cons (hb _ ok.goals) (.nil (w := 0)))))).mono (by omega) (by omega)
theorem q_sameD {d : D} {k w : Nat} (hs : ShD k w d) (hk : k ≤ 50) (hw : w ≤ 1000000) {h : Hm} (hd : deref h d = d) : F_x_law_same_2 [d, d] h = .ok (.bl true) h := by
  refine fd_st (F := runF 2 m_x_law_same) (runF_rt (len := 2) (m := m_x_law_same) (as := [d, d]) ?_) rfl
  show m_x_law_same [some d, some d] h = _
  exact tRet (mSame_ok (tV rfl) (tV rfl) hd hd hs hk hw)
/-! ### the law's look -/
abbrev kE (l : Nat) (p : PF.Pl) (a b c : Nat) (s : List Nat) (x8 x9 x10 x11 : Option D) : Ev := [some (.loc l), some (ePts p), some (ePl p), some (N p.k), some (N a), some (N b), some (eN c a b), some (.str s), x8, x9, x10, x11]
abbrev wB1 : MS := sSet 11 (mL (f1 fTupOf) (aCons (mL F_x_law_next_5 (aCons (m2 fIxD (mVar 1) (mC (.int 0))) (aCons (mVar 4) (aCons (mVar 5) (aCons (mVar 9) (aCons (mVar 10) (aNil))))))) (aNil)))
abbrev cM : ME := mCallO (TBL.f T_call_4) (mVar 6) (aCons (mVar 2) (aCons (mVar 9) (aCons (mVar 10) (aNil))))
abbrev wB2 : MS := sIf (mNotT (mTr (mL F_x_law_same_2 (aCons (mLst (aCons cM (aCons cM (aNil)))) (aCons (mLst (aCons (mVar 11) (aCons (mVar 11) (aNil)))) (aNil)))))) (sRet (mC (.bl false))) (sNil)
abbrev wayB : MS := sSeq wB1 wB2
abbrev pB1 : MS := sSet 9 (mTup (aCons (mL F_x_law_draw_2 (aCons (mVar 0) (aCons (mL (f1 fLen) (aCons (m2 fIxD (mVar 1) (mC (.int 0))) (aNil))) (aNil)))) (aCons (mL F_x_law_row_3 (aCons (mVar 0) (aCons (mVar 3) (aCons (m2 fAddG (mVar 4) (mVar 5)) (aNil))))) (aNil))))
abbrev lapB : MS := sSeq pB1 (sFor (iRange1 (mVar 3)) (gN 10) wayB)
theorem ways {p : PF.Pl} (ok : p.Ok) {a b c : Nat} (hc : NewsC c) (hab : a + b ≤ 4) {s : PF.Sit} (hs : PF.SOk p (a + b) s) {l : Nat} {t : List Nat} {x8 x10 x11 : Option D} {h : Hm} : ∃ y10 y11, sFor (iRange1 (mVar 3)) (gN 10) wayB (kE l p a b c t x8 (some (eS s)) x10 x11) h = .nx (kE l p a b c t x8 (some (eS s)) y10 y11) h := by
  have k3 := ok.k3
  obtain ⟨e2, h2, f, ⟨y10, y11, rfl⟩, rfl⟩ := forL_pred (t := gN 10) (body := wayB) (fun e g => (∃ x10 x11, e = kE l p a b c t x8 (some (eS s)) x10 x11) ∧ g = h) (xs := (List.range p.k).map N) (e := kE l p a b c t x8 (some (eS s)) x10 x11) (h := h) (by
    rintro y hy e g ⟨⟨x10, x11, rfl⟩, rfl⟩
    obtain ⟨o, ho, rfl⟩ := List.mem_map.mp hy
    have ho : o < p.k := by simpa using ho
    have hl7 := PF.len_next ok hs ho
    have s1 : wB1 (kE l p a b c t x8 (some (eS s)) (some (N o)) x11) g = .nx (kE l p a b c t x8 (some (eS s)) (some (N o)) (some (eSs (PF.nextIn a b p s o)))) g :=
      tSet (i := 11) (tL1 (F := f1 fTupOf) (tL5 (u := eM p.mv) (tM2 (tV rfl) rfl rfl) (tV rfl) (tV rfl) (tV rfl) (tV rfl) (q_lnext ok hab hs ho)) rfl)
    have cN : cM (kE l p a b c t x8 (some (eS s)) (some (N o)) (some (eSs (PF.nextIn a b p s o)))) g = .ok (eSs (PF.nextIn a b p s o)) g := call_N ok hc hab hs ho (tV rfl) (tA3 (tV rfl) (tV rfl) (tV rfl))
    have sh : ShD 4 5000 (.lst [eSs (PF.nextIn a b p s o), eSs (PF.nextIn a b p s o)]) := by
      have := shSs ok (m := a + b) (by omega) (l := PF.nextIn a b p s o) (fun z hz => PF.next_ok ok hs ho hz) (by omega)
      exact (ShD.lst (.cons this (.cons this (.nil (w := 0))))).mono (by omega) (by omega)
    have s2 : wB2 (kE l p a b c t x8 (some (eS s)) (some (N o)) (some (eSs (PF.nextIn a b p s o)))) g = .nx (kE l p a b c t x8 (some (eS s)) (some (N o)) (some (eSs (PF.nextIn a b p s o)))) g :=
      (tIfF (tNot (tTr (tL2 (tLstA (tCons cN (tCons cN tNil)) (by simp)) (tLstA (tCons (tV rfl) (tCons (tV rfl) tNil)) (by simp)) (q_sameD sh (by omega) (by omega) rfl))))).trans rfl
    exact ⟨_, _, g, rfl, (seq_nx s1).trans s2, ⟨_, _, rfl⟩, rfl⟩) ⟨⟨_, _, rfl⟩, rfl⟩
  exact ⟨y10, y11, (sFor_ok (iRange_N (tV rfl) (by omega))).trans f⟩
theorem lap {h0 h : Hm} (q : PS h0 h) {p : PF.Pl} (ok : p.Ok) {a b c : Nat} (hc : NewsC c) (hab : a + b ≤ 4) {t : List Nat} {x8 x9 x10 x11 : Option D} :
    ∃ y9 y10 y11 h', PS h0 h' ∧ lapB (kE h0.length p a b c t x8 x9 x10 x11) h = .nx (kE h0.length p a b c t x8 y9 y10 y11) h' := by
  have k1 := ok.k1
  have k3 := ok.k3
  have n1 := ok.n1
  have n6 : p.n ≤ 6 := ok.n6
  obtain ⟨x, g1, hx, q1, e1⟩ := d_draw q (m := p.n) n1 (by omega)
  obtain ⟨r, g2, hr, hk, q2, e2⟩ := d_row q1 (k := p.k) (m := a + b) k1 (by omega) (by omega)
  have hs : PF.SOk p (a + b) (x, r) := ⟨hx, hr, hk⟩
  have ln : mL (f1 fLen) (aCons (m2 fIxD (mVar 1) (mC (.int 0))) (aNil)) (kE h0.length p a b c t x8 x9 x10 x11) h = .ok (N p.n) h := tL1 (u := eM p.mv) (tM2 (tV rfl) rfl rfl) len_M
  have s1 : pB1 (kE h0.length p a b c t x8 x9 x10 x11) h = .nx (kE h0.length p a b c t x8 (some (eS (x, r))) x10 x11) g2 :=
    tSet (i := 9) (tTup2 (tL2 (tV rfl) ln e1) (tL3 (tV rfl) (tV rfl) (tM2 (tV rfl) (tV rfl) (fAddG_I.trans (by rw [show ((a : Int) + (b : Int)) = ((a + b : Nat) : Int) by omega]))) e2))
  obtain ⟨y10, y11, s2⟩ := ways ok hc hab hs (l := h0.length) (t := t) (x8 := x8) (x10 := x10) (x11 := x11) (h := g2)
  exact ⟨_, _, _, g2, q2, (seq_nx s1).trans s2⟩
theorem q_right {h0 h : Hm} (q : PS h0 h) {p : PF.Pl} (ok : p.Ok) : ∃ h', PS h0 h' ∧ F_x_law_right_2 [.loc h0.length, ePts p] h = .ok (.bl true) h' := by
  obtain ⟨a, b, g2, hab, q2, e2⟩ := d_numbers q
  obtain ⟨t, g3, ht, q3, e3⟩ := d_draw q2 (m := 2) (by omega) (by omega)
  obtain ⟨c, hc, e4⟩ := q_news (t := t) hab
  obtain ⟨st, hst, e5⟩ := repr_news hc hab
  obtain ⟨r0, er0, lr0⟩ := mv0 ok
  have lk : ∀ x2 x3 x4 x5 x6 x7 x8 x9 x10 x11 : Option D, mL (f1 fLen) (aCons (m2 fIxD (m2 fIxD (mVar 1) (mC (.int 0))) (mC (.int 0))) (aNil)) [some (.loc h0.length), some (ePts p), x2, x3, x4, x5, x6, x7, x8, x9, x10, x11] h = .ok (N p.k) h := fun _ _ _ _ _ _ _ _ _ _ =>
    tL1 (u := eR r0) (tM2 (x := eM p.mv) (tM2 (tV rfl) rfl rfl) rfl (ix_M (i := 0) er0)) (len_R.trans (by rw [lr0]))
  have s1 := tPar2 (i := 2) (j := 3) (tL1 (F := F_x_law_made_1) (x := mVar 1) (e := [some (.loc h0.length), some (ePts p), none, none, none, none, none, none, none, none, none, none]) (h := h) (tV rfl) (q_made ok)) (lk _ _ _ _ _ _ _ _ _ _)
  have s2 := tAsg (t := gTn 2 (gCons (gN 4) (gCons (gN 5) (gNil)))) (e1 := [some (.loc h0.length), some (ePts p), some (ePl p), some (N p.k), some (N a), some (N b), none, none, none, none, none, none]) (tL2 (F := F_x_law_numbers_2) (x := mVar 0) (y := mC (.int 4)) (v := N 4) (e := [some (.loc h0.length), some (ePts p), some (ePl p), some (N p.k), none, none, none, none, none, none, none, none]) (h := h) (tV rfl) rfl e2) rfl
  have s3 := tSet (i := 6) (tL3 (F := F_x_law_news_3) (x := mVar 4) (y := mVar 5) (z := mL F_x_law_draw_2 (aCons (mVar 0) (aCons (mC (.int 2)) (aNil)))) (e := [some (.loc h0.length), some (ePts p), some (ePl p), some (N p.k), some (N a), some (N b), none, none, none, none, none, none]) (h := g2) (tV rfl) (tV rfl) (tL2 (v := N 2) (tV rfl) rfl e3) (e4 g3))
  have s4 := tSet (i := 7) (tL1 (F := f1 (fReprI (TBL.f T_repr))) (x := mVar 6) (e := [some (.loc h0.length), some (ePts p), some (ePl p), some (N p.k), some (N a), some (N b), some (eN c a b), none, none, none, none, none]) (h := g3) (tV rfl) (e5 g3))
  obtain ⟨e6, h6, f, ⟨y8, y9, y10, y11, rfl⟩, q6⟩ := forL_pred (t := gN 8) (body := lapB) (fun e g => (∃ x8 x9 x10 x11, e = kE h0.length p a b c st x8 x9 x10 x11) ∧ PS h0 g) (xs := (List.range 6).map N) (e := kE h0.length p a b c st none none none none) (h := g3) (by
    rintro y hy e g ⟨⟨x8, x9, x10, x11, rfl⟩, qg⟩
    obtain ⟨x, hx, rfl⟩ := List.mem_map.mp hy
    obtain ⟨y9, y10, y11, h', q', e⟩ := lap qg ok hc hab (t := st) (x8 := some (N x)) (x9 := x9) (x10 := x10) (x11 := x11)
    exact ⟨_, _, h', rfl, e, ⟨_, _, _, _, rfl⟩, q'⟩) ⟨⟨_, _, _, _, rfl⟩, q3⟩
  have s5 := (sFor_ok (t := gN 8) (body := lapB) (iRange_N (n := 6) (a := mC (.int 6)) (e := kE h0.length p a b c st none none none none) (h := g3) (h1 := g3) rfl (by omega))).trans f
  refine ⟨h6, q6, fd_st (F := runF 12 m_x_law_right) (runF_st (len := 12) (m := m_x_law_right) (as := [.loc h0.length, ePts p]) ?_ (by rw [q6.len, q.len]; exact Nat.le_refl _)) rfl⟩
  show m_x_law_right [some (.loc h0.length), some (ePts p), none, none, none, none, none, none, none, none, none, none] h = _
  have r1 : m2 fEq (mL (f1 (fReprI (TBL.f T_repr))) (aCons (mVar 6) (aNil))) (mVar 7) (kE h0.length p a b c st y8 y9 y10 y11) h6 = .ok (.bl true) h6 := tM2 (tL1 (F := f1 (fReprI (TBL.f T_repr))) (tV rfl) (e5 h6)) (tV rfl) (fEq_str hst)
  have r2 : mL F_x_law_same_2 (aCons (mTup (aCons (mProp (TBL.f P_moves) (mVar 2)) (aCons (mProp (TBL.f P_bad) (mVar 2)) (aCons (mProp (TBL.f P_goal) (mVar 2)) (aNil))))) (aCons (mVar 1) (aNil))) (kE h0.length p a b c st y8 y9 y10 y11) h6 = .ok (.bl true) h6 :=
    tL2 (u := ePts p) (tTup3 (p_moves (tV rfl)) (p_bad (tV rfl)) (p_goal (tV rfl))) (tV rfl) (q_sameD (shParts ok) (by omega) (by omega) rfl)
  unfold m_x_law_right
  exact (seq_nx s1).trans ((seq_nx s2).trans ((seq_nx s3).trans ((seq_nx s4).trans ((seq_nx s5).trans (tRet ((tAnd r1 fun _ => r2).trans rfl))))))
end Law
end MP
end L2

set_option Elab.async false
set_option linter.all false
set_option maxRecDepth 100000
set_option maxHeartbeats 4000000
namespace L2
namespace MP
namespace Law
open PySem PySem.Spec PyProof.Rows
abbrev turnB : MS := sIf (mNotT (mTr (mL F_x_law_right_2 (aCons (mVar 2) (aCons (mL F_x_law_parts_2 (aCons (mVar 2) (aCons (mC (.int 6)) (aNil)))) (aNil)))))) (sRet (mC (.bl false))) (sNil)
theorem turn {h0 h : Hm} (q : PS h0 h) {a0 a1 a3 : Option D} : ∃ h', PS h0 h' ∧ turnB [a0, a1, some (.loc h0.length), a3] h = .nx [a0, a1, some (.loc h0.length), a3] h' := by
  obtain ⟨p, g1, hp, q1, e1⟩ := d_parts q (m := 6) (by omega) (by omega)
  obtain ⟨g2, q2, e2⟩ := q_right q1 hp.ok
  exact ⟨g2, q2, (tIfF (tNot (tTr (tL2 (tV rfl) (tL2 (v := N 6) (tV rfl) rfl e1) e2)))).trans rfl⟩
theorem law_true (ns : List Int) : ∃ h, F_xlaw_1 [.scr ns] [] = .ok (.bl true) h := by
  obtain ⟨e2, h2, f⟩ := outer (ns := ns) (cap := 3) (body := sSeq (sSet 2 (mL F_x_law_pen_1 (aCons (mL F_x_law_cell_at_2 (aCons (mVar 0) (aCons (mVar 1) (aNil)))) (aNil)))) (sFor (iRange1 (mC (.int 12))) (gN 3) turnB)) (by omega) (fun e => ∃ a1 a2 a3, e = [some (.scr ns), a1, a2, a3]) (by
    rintro k _ h ⟨a1, a2, a3, rfl⟩ hl
    obtain ⟨g1, q1, s1⟩ := pen_set hl (ns := ns) (k := k) (e := [some (.scr ns), some (N k), a2, a3]) rfl rfl
    obtain ⟨e2, h2, f, ⟨b3, rfl⟩, q2⟩ := forL_pred (t := gN 3) (body := turnB) (fun e g => (∃ a3, e = [some (.scr ns), some (N k), some (.loc h.length), a3]) ∧ PS h g) (xs := (List.range 12).map N) (e := [some (.scr ns), some (N k), some (.loc h.length), a3]) (h := g1) (by
      rintro y hy e g ⟨⟨a3, rfl⟩, qg⟩
      obtain ⟨x, hx, rfl⟩ := List.mem_map.mp hy
      obtain ⟨g2, q2, e2⟩ := turn qg (a0 := some (.scr ns)) (a1 := some (N k)) (a3 := some (N x))
      exact ⟨_, _, g2, rfl, e2, ⟨_, rfl⟩, q2⟩) ⟨⟨_, rfl⟩, q1⟩
    exact ⟨_, h2, (seq_nx s1).trans ((sFor_ok (iRange_N (n := 12) rfl (by omega))).trans f), ⟨_, _, _, rfl⟩, q2.lowH⟩) (e := [some (.scr ns), none, none, none]) rfl ⟨_, _, _, rfl⟩
  obtain ⟨h', e3⟩ := fin_true (h := h2)
  refine ⟨h', ?_⟩
  have top : F_xlaw_1 [.scr ns] [] = runS 0 (m_xlaw [some (.scr ns), none, none, none] []) := rfl
  have body : m_xlaw [some (.scr ns), none, none, none] [] = .rt (.bl true) h2 := (seq_nx f).trans (ret_n rfl)
  rw [top, body]
  exact e3
end Law
end MP
end L2

set_option Elab.async false
set_option linter.all false
set_option maxRecDepth 1000000
set_option maxHeartbeats 0
namespace L2
namespace MP
namespace Law
open PySem PySem.Spec PyProof.Rows
abbrev qv : Program := PySem.W.view R.prog [68]
abbrev dd := HandSHeadRun.topDef R.prog 68
/-- what stays of what the law is handed -/
def onlyF (H : Hp) : Hp := fun b => match H b with
  | some (HO.frz o u) => some (HO.frz o u)
  | _ => none
theorem onlyF_le {H : Hp} : Same (onlyF H) H := fun b u e => by
  unfold onlyF at e
  split at e
  · rename_i q; rw [q]; exact e
  · cases e
theorem onlyF_at {H : Hp} {a : Addr} {o : Obj} {u : HO} (h : H a = some (.frz o u)) : onlyF H a = some (.frz o u) := by
  unfold onlyF
  rw [h]
theorem get_nil {l : Nat} : Hm.get [] l = none := by simp [Hm.get]
theorem law_F (w : World) (mg : Str → Option Value) (fa : Addr) (h : Heap) (Y : hk.says w h) (G : h.Ns mainGlobals mg) (hmg : mg dd.name = some (.ref fa)) :
    ∃ (K : PySem.W.Frag) (fd : FuncData), K.In h ∧ (∀ (s : Shared) (u : Value), BindsTo s fd ⟨[u], []⟩ [("_law_script", u)]) ∧
      ∀ base : Heap, K.In base → base.Ns mainGlobals mg → ∃ sp : Sp, FnG PySem.Challenge.rw_latehelm_k09_next_situations.prog w K mg base (L2.CX PySem.Challenge.rw_latehelm_k09_next_situations.prog w) 9 fa fd ["_law_script"] sp ∧
        ∀ (H : Hp) (a : Addr) (ns : List Int), ns.length ≤ 63 → Only H → SqL K H a (ns.map V.int) → sp [.ref a] H (fun v _ => v = .bl true) fun _ _ _ => False := by
  obtain ⟨K, KX, c⟩ := Y
  have b0 : B ⟨PySem.Challenge.rw_latehelm_k09_next_situations.prog, w, K, mg, h, caOf K insN excN⟩ := B.of KX G c
  obtain ⟨fd, F⟩ := b0.q_xlaw
  have e : He.ga K "law" = fa := by
    have e1 : mg "law" = some (.ref (He.ga K "law")) := b0.d_law
    have e2 : dd.name = ("law" : Str) := by kernel_rfl
    rw [e2, e1] at hmg
    cases hmg; rfl
  have hb : ∀ (s : Shared) (u : Value), BindsTo s fd ⟨[u], []⟩ [("_law_script", u)] := fun s u => FunD.bindsA (ps := ["_law_script"]) F (fun _ _ _ _ _ _ us hl => match us, hl with | [_], _ => rfl) s [u] rfl
  refine ⟨K, fd, KX, hb, fun base hK hN => ?_⟩
  have b : B ⟨PySem.Challenge.rw_latehelm_k09_next_situations.prog, w, K, mg, base, caOf K insN excN⟩ := B.of hK hN c
  let g : GX := ⟨PySem.Challenge.rw_latehelm_k09_next_situations.prog, w, K, mg, base, caOf K insN excN⟩
  have F' : FunD g.K "law" "law" (defArgs (top 68)) (defBody (top 68)) (defScope (top 68)) [] [] fa fd := by rw [← e]; exact F
  obtain ⟨oc, od, dV, kV, doc, pm, an, cdv, ct, osl, rfl, lk, hcd, _, _⟩ := F'.ex
  have hG := fn_mp (g := g) lk hcd sc_xlaw (d_xlaw b)
  refine ⟨_, hG, fun H a ns hl hO hS => ?_⟩
  obtain ⟨h', eT⟩ := law_true ns
  let G0 : GP := ⟨onlyF H, fun _ => none⟩
  have le : Same G0.f H := onlyF_le
  have hS0 : SqL K G0.f a (ns.map V.int) := by
    rcases hS with z | z
    · rcases z with z | ⟨o, z⟩
      · rcases hO a with q | ⟨o, xs, q⟩ <;> (rw [z] at q; cases q)
      · exact .inl (.inr ⟨o, onlyF_at z⟩)
    · exact .inr z
  refine ⟨rfl, G0, [], [.scr ns], [], .cons (.scr hS0) .nil, ⟨le, fun b u e => (by cases e), fun b u e => (by cases e), rfl, fun l o e => (by rw [get_nil] at e; cases e), fun l l' o o' a' e => (by rw [get_nil] at e; cases e)⟩, ?_⟩
  have eF : runF 4 m_xlaw [.scr ns] [] = .ok (.bl true) h' := eT
  show PostR g _ [] (RpE g) G0 [] (runF 4 m_xlaw [.scr ns] []) _
  rw [eF]
  intro G' ι' H' x gr rh rx
  cases rx with
  | bl b => rfl
end Law
end MP
end L2
open PySem PySem.W PySem.Calls PyProof.Rows L2 L2.MP L2.MP.Law in
set_option maxRecDepth 100000 in
set_option maxHeartbeats 0 in
theorem PySem.Challenge.cw_latehelm_k09_next_situations_holds : PySem.Challenge.rw_latehelm_k09_next_situations.Holds := by
  w_on; o_law
  refine HandSHeadRun.head_any (r := R) (q := qv) (H := hk) (ob := ob) (M := 20000) (loose := loose) (d := dd) (kwd := []) ob_eq
    (by kernel_rfl) (fun s => by kernel_rfl) L2.MP.Law.run (by kernel_rfl) (by kernel_rfl) (by kernel_rfl) (by rfl) (by first | assumption | decide +kernel) (by decide +kernel) ⟨rfl, rfl, rfl, rfl, rfl, by decide +kernel⟩ ?hw ?hc
  case hw => w_witness2
  case hc =>
    refine walk_ofH (l := PySem.Challenge.rw_latehelm_k09_next_situations) (n := 63) (k := 9) (x := "_law_script") (CX := fun w => L2.CX PySem.Challenge.rw_latehelm_k09_next_situations.prog w) rfl (by decide) (by kernel_rfl) ⟨rfl, by decide, by decide⟩ law_F ?hCX
    intro w H s e s' z
    obtain ⟨_, _, _, _, _, _, _, _, _, _, _, _, z⟩ := z
    exact z

