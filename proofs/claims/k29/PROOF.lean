import PyProof.Rows.All
import Wide.All
import OpenK.AllK
import Wide.FinOn
import PySem.Challenge.RW_farword_k29_whole_barred_histories
import HandS.ForMost
import HandS.Deep
import HandS.Codes
import HandS.Exc
import HandS.Defaults
import HandS.Property
import HandS.HeadHook1
import HandS.Words
import HandS.WordsExc
import HandS.Head0
import HandS.Head1
import HandS.Head2
import HandS.Head3
import HandS.HeadEnd
import KE.KDictKeyed
import KE.KDictWalk
import HandS.TupAny
import HandS.Style
import HandS.DictComp
import PyProof.AssignAttr
import HandS.Iter
import HandS.TupLen
import HandS.More
import KE.KDictCopyH
import KE.KDictDisplayH
import HandS.RaiseMore
import KE.SortData
import KE.DataCmp
import HandS.Set
import HandS.SetFor
import HandS.SetTxt0
import HandS.Strs
import KE.SortCalls
import PyProof.SetRoads
import HandS.TupSets
import HandS.MapObj
import HandS.Records
import HandS.ExcValue
import KE.KStateDown
set_option Elab.async false
set_option linter.all false
set_option maxRecDepth 100000
set_option maxHeartbeats 4000000
namespace Fw
open PySem L2
def top (i : Nat) : Stmt := PySem.Challenge.pw_farword_k29_whole_barred_histories.main.body.getD i (.Pass ⟨0, 0, 0, 0⟩)
/-- a method of the class at place i -/
def mth (i j : Nat) : Stmt := inClass (top i) j
end Fw
set_option maxHeartbeats 0
namespace Fw
open PySem PySem.Spec PyProof.Rows L2
/-! ### what the head tells of the module -/
/-- a property's getter -/
def pgAd (K : PySem.W.Frag) (C m : Str) : Addr := match PySem.W.recIn K (He.ma K (He.ga K C) m) "property" with
  | some (.ref g :: _) => g
  | _ => 0
/-- a thing to look at -/
inductive Fx where
  | fa (f : He.Fa)
  | ty (x : Str) (n : String)
  | prop (C m : Str)
  | own (C : Str) (ns : List Str)
def Fx.ok (K : PySem.W.Frag) : Fx → Bool
  | .fa f => f.ok K
  | .ty x n => (match PySem.W.nsIn K mainGlobals x with
    | some (some (.type m)) => m == n
    | _ => false)
  | .prop C m => He.eqO (PySem.W.findIn K (.ref (He.ga K C)) m) (some (some (.ref (He.ma K (He.ga K C) m)))) && (He.eqO (PySem.W.specialIn K (.ref (He.ma K (He.ga K C) m)) "__get__") (some (some (.builtin "property.__get__"))) && (decide (PySem.W.takesIn K (.ref (He.ma K (He.ga K C) m)) = some true) && (match PySem.W.recIn K (He.ma K (He.ga K C) m) "property" with
    | some (.ref _ :: _) => true
    | _ => false)))
  | .own C ns => (He.Fa.cls C).ok K && ns.all fun x => (He.Fa.noat C x).ok K
/-- a def of the text, where its function stands -/
structure Dd where
  ad : PySem.W.Frag → Addr
  nm : Str
  qual : Str
  st : Stmt
def Dd.told (d : Dd) : He.FnV := some (d.nm, d.qual, C8.fnArgs d.st, .stmts (C8.fnBody d.st), C8.fnScope d.st, mainGlobals, [], .none, builtinsNs)
def seenFn (K : PySem.W.Frag) (a : Addr) : He.FnV := match K.lookup a with
  | none => none
  | some ob => match ob.data with
    | .func q => some (q.name, q.qualname, q.params, q.body, q.scope, q.globals, q.closure, q.defaults, q.builtins)
    | _ => none
def Dd.cod (K : PySem.W.Frag) (d : Dd) : Bool := match K.lookup (d.ad K) with
  | none => false
  | some ob => match ob.data with
    | .func q => PySem.W.codeIn K q.code d.qual
    | _ => false
abbrev AlF : Type := Bool × List He.FnV
def lookF (fs : List Fx) (ds : List Dd) (K : PySem.W.Frag) : AlF := (fs.all (Fx.ok K) && ds.all (Dd.cod K), ds.map fun d => seenFn K (d.ad K))
def wantF (ds : List Dd) : AlF := (true, ds.map Dd.told)
/-- what these objects name -/
def nextL (g : Addr → Option Obj) (as : List Addr) : List Addr := as.flatMap fun a => match g a with
  | some o => He.refsO o
  | none => []
/-- what is reached from these in n steps -/
def asL (g : Addr → Option Obj) : Nat → List Addr → List Addr
  | 0, as => as
  | n + 1, as => as ++ asL g n (nextL g as)
def lookG (n : Nat) (fs : List Fx) (ds : List Dd) (g : Addr → Option Obj) : AlF := lookF fs ds (He.frG g (asL g n [mainGlobals]))
def hdF0 : List Fx := [.fa (.free "len"), .fa (.free "all"), .fa (.free "any"), .fa (.free "range"), .fa (.free "sorted"), .fa (.free "set"), .fa (.free "list"), .fa (.free "tuple"), .fa (.free "int"), .fa (.free "abs"), .fa (.free "max"), .fa (.free "repr"), .fa (.str "LETTERS" "abcdefghijklmnopqrstuvwxyz0123456789"), .fa (.str "MODE" "mode"), .fa (.str "COMMAND" "command"), .fa (.str "ALARM" "alarm"), .fa (.str "ROW" "row"), .fa (.int "MOST_STANDINGS" 2000), .ty "combinations" "itertools.combinations", .fa (.glo "Book"), .own "Book" ["_holds", "_barred", "_parts", "_quiet"], .fa (.mkr "Book"), .fa (.glo "Gears"), .own "Gears" ["home", "patience", "turns", "effects", "responses", "series"], .fa (.mkr "Gears"), .fa (.glo "Turn"), .own "Turn" ["gears", "mode", "lot", "row", "place", "left", "silence", "done", "refused", "moments"], .fa (.mkr "Turn"), .fa (.glo "Step"), .own "Step" ["standing", "done", "refused", "moments"]]
def hdF1 : List Fx := [.fa (.mkr "Step"), .fa (.meth "Turn" "effect"), .fa (.meth "Turn" "halt"), .fa (.meth "Turn" "begin"), .fa (.meth "Turn" "command"), .fa (.meth "Turn" "answer"), .fa (.meth "Turn" "obey"), .fa (.meth "Turn" "wait"), .fa (.meth "Turn" "go_on"), .fa (.meth "Turn" "step"), .prop "Book" "holds", .prop "Book" "modes", .prop "Book" "barred", .prop "Book" "commands", .prop "Book" "alarms", .prop "Book" "rows", .prop "Book" "quiet", .prop "Book" "safe", .fa (.glo "is_name"), .fa (.keep "is_name"), .fa (.glo "is_lot"), .fa (.keep "is_lot"), .fa (.glo "is_lot_of"), .fa (.keep "is_lot_of"), .fa (.glo "are_turned"), .fa (.keep "are_turned"), .fa (.glo "require"), .fa (.keep "require"), .fa (.glo "require_names"), .fa (.keep "require_names")]
def hdF2 : List Fx := [.fa (.glo "is_effect"), .fa (.keep "is_effect"), .fa (.glo "is_step"), .fa (.keep "is_step"), .fa (.glo "names_of"), .fa (.keep "names_of"), .fa (.glo "is_order"), .fa (.keep "is_order"), .fa (.glo "is_input"), .fa (.keep "is_input"), .fa (.glo "check_inputs"), .fa (.keep "check_inputs"), .fa (.glo "turned"), .fa (.keep "turned"), .fa (.glo "tick_by"), .fa (.keep "tick_by"), .fa (.glo "first_standing"), .fa (.keep "first_standing"), .fa (.glo "run_of"), .fa (.keep "run_of"), .fa (.glo "orders_of"), .fa (.keep "orders_of"), .fa (.glo "lots_of"), .fa (.keep "lots_of"), .fa (.glo "inputs_of"), .fa (.keep "inputs_of"), .fa (.glo "is_barred"), .fa (.keep "is_barred"), .fa (.glo "has_barred"), .fa (.keep "has_barred")]
def hdF3 : List Fx := [.fa (.glo "befores"), .fa (.keep "befores"), .fa (.glo "way_to"), .fa (.keep "way_to"), .fa (.glo "verdict"), .fa (.keep "verdict"), .fa (.glo "is_barred_history"), .fa (.keep "is_barred_history"), .fa (.glo "_law_row"), .fa (.keep "_law_row"), .fa (.glo "_law_numbers"), .fa (.keep "_law_numbers"), .fa (.glo "_law_names"), .fa (.keep "_law_names"), .fa (.glo "_law_lot"), .fa (.keep "_law_lot"), .fa (.glo "_law_turned"), .fa (.keep "_law_turned"), .fa (.glo "_law_to"), .fa (.keep "_law_to"), .fa (.glo "_law_effect"), .fa (.keep "_law_effect"), .fa (.glo "_law_book"), .fa (.keep "_law_book"), .fa (.glo "_law_made"), .fa (.keep "_law_made"), .fa (.glo "_law_change"), .fa (.keep "_law_change"), .fa (.glo "_law_effected"), .fa (.keep "_law_effected")]
def hdF4 : List Fx := [.fa (.glo "_law_first"), .fa (.keep "_law_first"), .fa (.glo "_law_steps_of"), .fa (.keep "_law_steps_of"), .fa (.glo "_law_command"), .fa (.keep "_law_command"), .fa (.glo "_law_running"), .fa (.keep "_law_running"), .fa (.glo "_law_tick"), .fa (.keep "_law_tick"), .fa (.glo "_law_subsets"), .fa (.keep "_law_subsets"), .fa (.glo "_law_orders"), .fa (.keep "_law_orders"), .fa (.glo "_law_inputs"), .fa (.keep "_law_inputs"), .fa (.glo "_law_is_barred"), .fa (.keep "_law_is_barred"), .fa (.glo "_law_told"), .fa (.keep "_law_told"), .fa (.glo "_law_last_moments"), .fa (.keep "_law_last_moments"), .fa (.glo "_law_is_ahead"), .fa (.keep "_law_is_ahead"), .fa (.glo "law"), .fa (.keep "law")]
def hdF : List Fx := hdF0 ++ (hdF1 ++ (hdF2 ++ (hdF3 ++ (hdF4))))
abbrev hd0 : Dd := ⟨fun K => He.ma K (He.ga K "Book") "__init__", "__init__", "Book.__init__", mth 22 0⟩
abbrev hd1 : Dd := ⟨fun K => pgAd K "Book" "holds", "holds", "Book.holds", mth 22 1⟩
abbrev hd2 : Dd := ⟨fun K => pgAd K "Book" "modes", "modes", "Book.modes", mth 22 2⟩
abbrev hd3 : Dd := ⟨fun K => pgAd K "Book" "barred", "barred", "Book.barred", mth 22 3⟩
abbrev hd4 : Dd := ⟨fun K => pgAd K "Book" "commands", "commands", "Book.commands", mth 22 4⟩
abbrev hd5 : Dd := ⟨fun K => pgAd K "Book" "alarms", "alarms", "Book.alarms", mth 22 5⟩
abbrev hd6 : Dd := ⟨fun K => pgAd K "Book" "rows", "rows", "Book.rows", mth 22 6⟩
abbrev hd7 : Dd := ⟨fun K => pgAd K "Book" "quiet", "quiet", "Book.quiet", mth 22 7⟩
abbrev hd8 : Dd := ⟨fun K => pgAd K "Book" "safe", "safe", "Book.safe", mth 22 8⟩
abbrev hd9 : Dd := ⟨fun K => He.ma K (He.ga K "Gears") "__init__", "__init__", "Gears.__init__", mth 28 0⟩
abbrev hd10 : Dd := ⟨fun K => He.ma K (He.ga K "Turn") "__init__", "__init__", "Turn.__init__", mth 30 0⟩
abbrev hd11 : Dd := ⟨fun K => He.ma K (He.ga K "Turn") "effect", "effect", "Turn.effect", mth 30 1⟩
abbrev hd12 : Dd := ⟨fun K => He.ma K (He.ga K "Turn") "halt", "halt", "Turn.halt", mth 30 2⟩
abbrev hd13 : Dd := ⟨fun K => He.ma K (He.ga K "Turn") "begin", "begin", "Turn.begin", mth 30 3⟩
abbrev hd14 : Dd := ⟨fun K => He.ma K (He.ga K "Turn") "command", "command", "Turn.command", mth 30 4⟩
abbrev hd15 : Dd := ⟨fun K => He.ma K (He.ga K "Turn") "answer", "answer", "Turn.answer", mth 30 5⟩
abbrev hd16 : Dd := ⟨fun K => He.ma K (He.ga K "Turn") "obey", "obey", "Turn.obey", mth 30 6⟩
abbrev hd17 : Dd := ⟨fun K => He.ma K (He.ga K "Turn") "wait", "wait", "Turn.wait", mth 30 7⟩
abbrev hd18 : Dd := ⟨fun K => He.ma K (He.ga K "Turn") "go_on", "go_on", "Turn.go_on", mth 30 8⟩
abbrev hd19 : Dd := ⟨fun K => He.ma K (He.ga K "Turn") "step", "step", "Turn.step", mth 30 9⟩
abbrev hd20 : Dd := ⟨fun K => He.ma K (He.ga K "Step") "__init__", "__init__", "Step.__init__", mth 27 0⟩
abbrev hd21 : Dd := ⟨fun K => He.ga K "is_name", "is_name", "is_name", top 13⟩
abbrev hd22 : Dd := ⟨fun K => He.ga K "is_lot", "is_lot", "is_lot", top 14⟩
abbrev hd23 : Dd := ⟨fun K => He.ga K "is_lot_of", "is_lot_of", "is_lot_of", top 15⟩
abbrev hd24 : Dd := ⟨fun K => He.ga K "are_turned", "are_turned", "are_turned", top 16⟩
abbrev hd25 : Dd := ⟨fun K => He.ga K "require", "require", "require", top 17⟩
abbrev hd26 : Dd := ⟨fun K => He.ga K "require_names", "require_names", "require_names", top 18⟩
abbrev hd27 : Dd := ⟨fun K => He.ga K "is_effect", "is_effect", "is_effect", top 19⟩
abbrev hd28 : Dd := ⟨fun K => He.ga K "is_step", "is_step", "is_step", top 20⟩
abbrev hd29 : Dd := ⟨fun K => He.ga K "names_of", "names_of", "names_of", top 21⟩
abbrev hd30 : Dd := ⟨fun K => He.ga K "is_order", "is_order", "is_order", top 23⟩
abbrev hd31 : Dd := ⟨fun K => He.ga K "is_input", "is_input", "is_input", top 24⟩
abbrev hd32 : Dd := ⟨fun K => He.ga K "check_inputs", "check_inputs", "check_inputs", top 25⟩
abbrev hd33 : Dd := ⟨fun K => He.ga K "turned", "turned", "turned", top 29⟩
abbrev hd34 : Dd := ⟨fun K => He.ga K "tick_by", "tick_by", "tick_by", top 31⟩
abbrev hd35 : Dd := ⟨fun K => He.ga K "first_standing", "first_standing", "first_standing", top 32⟩
abbrev hd36 : Dd := ⟨fun K => He.ga K "run_of", "run_of", "run_of", top 33⟩
abbrev hd37 : Dd := ⟨fun K => He.ga K "orders_of", "orders_of", "orders_of", top 34⟩
abbrev hd38 : Dd := ⟨fun K => He.ga K "lots_of", "lots_of", "lots_of", top 35⟩
abbrev hd39 : Dd := ⟨fun K => He.ga K "inputs_of", "inputs_of", "inputs_of", top 36⟩
abbrev hd40 : Dd := ⟨fun K => He.ga K "is_barred", "is_barred", "is_barred", top 37⟩
abbrev hd41 : Dd := ⟨fun K => He.ga K "has_barred", "has_barred", "has_barred", top 38⟩
abbrev hd42 : Dd := ⟨fun K => He.ga K "befores", "befores", "befores", top 41⟩
abbrev hd43 : Dd := ⟨fun K => He.ga K "way_to", "way_to", "way_to", top 42⟩
abbrev hd44 : Dd := ⟨fun K => He.ga K "verdict", "verdict", "verdict", top 43⟩
abbrev hd45 : Dd := ⟨fun K => He.ga K "is_barred_history", "is_barred_history", "is_barred_history", top 44⟩
abbrev hd46 : Dd := ⟨fun K => He.ga K "_law_row", "_law_row", "_law_row", top 46⟩
abbrev hd47 : Dd := ⟨fun K => He.ga K "_law_numbers", "_law_numbers", "_law_numbers", top 47⟩
abbrev hd48 : Dd := ⟨fun K => He.ga K "_law_names", "_law_names", "_law_names", top 48⟩
abbrev hd49 : Dd := ⟨fun K => He.ga K "_law_lot", "_law_lot", "_law_lot", top 49⟩
abbrev hd50 : Dd := ⟨fun K => He.ga K "_law_turned", "_law_turned", "_law_turned", top 50⟩
abbrev hd51 : Dd := ⟨fun K => He.ga K "_law_to", "_law_to", "_law_to", top 51⟩
abbrev hd52 : Dd := ⟨fun K => He.ga K "_law_effect", "_law_effect", "_law_effect", top 52⟩
abbrev hd53 : Dd := ⟨fun K => He.ga K "_law_book", "_law_book", "_law_book", top 53⟩
abbrev hd54 : Dd := ⟨fun K => He.ga K "_law_made", "_law_made", "_law_made", top 54⟩
abbrev hd55 : Dd := ⟨fun K => He.ga K "_law_change", "_law_change", "_law_change", top 55⟩
abbrev hd56 : Dd := ⟨fun K => He.ga K "_law_effected", "_law_effected", "_law_effected", top 56⟩
abbrev hd57 : Dd := ⟨fun K => He.ga K "_law_first", "_law_first", "_law_first", top 57⟩
abbrev hd58 : Dd := ⟨fun K => He.ga K "_law_steps_of", "_law_steps_of", "_law_steps_of", top 58⟩
abbrev hd59 : Dd := ⟨fun K => He.ga K "_law_command", "_law_command", "_law_command", top 59⟩
abbrev hd60 : Dd := ⟨fun K => He.ga K "_law_running", "_law_running", "_law_running", top 60⟩
abbrev hd61 : Dd := ⟨fun K => He.ga K "_law_tick", "_law_tick", "_law_tick", top 61⟩
abbrev hd62 : Dd := ⟨fun K => He.ga K "_law_subsets", "_law_subsets", "_law_subsets", top 62⟩
abbrev hd63 : Dd := ⟨fun K => He.ga K "_law_orders", "_law_orders", "_law_orders", top 63⟩
abbrev hd64 : Dd := ⟨fun K => He.ga K "_law_inputs", "_law_inputs", "_law_inputs", top 64⟩
abbrev hd65 : Dd := ⟨fun K => He.ga K "_law_is_barred", "_law_is_barred", "_law_is_barred", top 65⟩
abbrev hd66 : Dd := ⟨fun K => He.ga K "_law_told", "_law_told", "_law_told", top 66⟩
abbrev hd67 : Dd := ⟨fun K => He.ga K "_law_last_moments", "_law_last_moments", "_law_last_moments", top 67⟩
abbrev hd68 : Dd := ⟨fun K => He.ga K "_law_is_ahead", "_law_is_ahead", "_law_is_ahead", top 68⟩
abbrev hd69 : Dd := ⟨fun K => He.ga K "law", "law", "law", top 69⟩
def hdD0 : List Dd := [hd0, hd1, hd2, hd3, hd4, hd5, hd6, hd7, hd8, hd9, hd10, hd11, hd12, hd13, hd14, hd15, hd16, hd17, hd18, hd19, hd20, hd21, hd22, hd23, hd24, hd25, hd26, hd27, hd28, hd29]
def hdD1 : List Dd := [hd30, hd31, hd32, hd33, hd34, hd35, hd36, hd37, hd38, hd39, hd40, hd41, hd42, hd43, hd44, hd45, hd46, hd47, hd48, hd49, hd50, hd51, hd52, hd53, hd54, hd55, hd56, hd57, hd58, hd59]
def hdD2 : List Dd := [hd60, hd61, hd62, hd63, hd64, hd65, hd66, hd67, hd68, hd69]
def hdD : List Dd := hdD0 ++ (hdD1 ++ (hdD2))
end Fw
set_option maxHeartbeats 0
namespace Fw
open PySem PySem.Spec PyProof.Rows L2
open PySem.W PySem.Calls
def lo0 : List Str := ["_wall", "__name__", "FarError", "InvalidBook", "InvalidInput", "TooLarge", "LETTERS", "MODE", "COMMAND", "ALARM", "ROW", "is_name", "is_lot", "is_lot_of", "are_turned", "require", "require_names", "is_effect", "is_step", "names_of", "Book", "is_order", "is_input", "check_inputs", "Step"]
def lo1 : List Str := ["Gears", "turned", "Turn", "tick_by", "first_standing", "run_of", "orders_of", "lots_of", "inputs_of", "is_barred", "has_barred", "MOST_STANDINGS", "befores", "way_to", "verdict", "is_barred_history", "_law_row", "_law_numbers", "_law_names", "_law_lot", "_law_turned", "_law_to", "_law_effect", "_law_book", "_law_made"]
def lo2 : List Str := ["_law_change", "_law_effected", "_law_first", "_law_steps_of", "_law_command", "_law_running", "_law_tick", "_law_subsets", "_law_orders", "_law_inputs", "_law_is_barred", "_law_told", "_law_last_moments", "_law_is_ahead"]
def loAll : List Str := lo0 ++ (lo1 ++ (lo2))
abbrev hR : PySem.W.OpenRow := PySem.W.OpenLaw.row PySem.Challenge.rw_farword_k29_whole_barred_histories
abbrev hQ : Program := PySem.W.view hR.prog [0, 69]
/-! the run, looked at four times: one look at all of it asks too much of the kernel's memory -/
noncomputable abbrev whole (w : World) := HandSHeadRun.wholeF (fun p => HandSHeadRun.stepQ (HandSHeadRun.denQ HandSHeadRun.tabQ) p w) HandSHeadRun.fenceQ 20000 hR.prog
def ob1 (s : PySem.W.SharedT) : AlF := lookG 5 hdF [] (HandSHeadRun.getT s)
def ob2 (s : PySem.W.SharedT) : AlF := lookG 5 [] hdD (HandSHeadRun.getT s)
theorem run1 (w : World) : (whole w).map (fun x => HandSHeadRun.looksF hR.prog x.1.heap x.2.abs) = some true := by kernel_rfl
theorem run2 (w : World) : (whole w).map (fun x => HandSHeadRun.seenQ hQ loAll (importedModules hR.prog.main.body) (fun s => PySem.W.xlAt hQ [] s && PySem.W.recOk hR.toRowW.records s) x.2.abs) = some (PySem.W.openGood hQ loAll) := by kernel_rfl
theorem run3 (w : World) : (whole w).map (fun x => ob1 x.2) = some (wantF []) := by kernel_rfl
theorem run4 (w : World) : (whole w).map (fun x => ob2 x.2) = some (wantF hdD) := by kernel_rfl
end Fw
namespace Fw
open PySem PySem.Spec PyProof.Rows L2
/-! ### data trees -/
inductive D where
  | non | bl (b : Bool) | int (i : Int) | str (x : Str)
  | lst (xs : List D) | tup (xs : List D)
  | dk (ks : List Key) (vs : List D)
  | ins (C : Addr) (ns : List Str) (vs : List D)
  | dt (ks vs : List D)
  | sq (xs : List D)
/-- the fixed part of a context -/
structure Wd where
  P : Program
  w : World
  K : PySem.W.Frag
abbrev wd (X : Cx) : Wd := ⟨X.prog, X.w, X.K⟩
mutual
def D.nk : D → NestedKey
  | .non => .none
  | .int i => .num i
  | .str x => .text x
  | .tup xs => .tup (D.nks xs)
  | _ => .none
def D.nks : List D → List NestedKey
  | [] => []
  | d :: ds => d.nk :: D.nks ds
end
/-- a dict whose keys are nested tuples: what its own object bears -/
def KyP (W : Wd) (a : Addr) (xs : List (NestedKey × Addr × V)) (h : Heap) : Prop := xs.length ≤ sizeLine ∧ (a == sysModules) = false ∧ (xs.map (·.1)).Nodup ∧ ∃ (o : Obj) (es : Array DictEntry) (ep : Nat) (ys : List (NestedKey × Addr × Value)),
  h.get? a = some o ∧ o.ExactDict ∧ o.data = .dict es ep ∧ Paired (fun (x : NestedKey × Addr × V) (y : NestedKey × Addr × Value) => x.1 = y.1 ∧ x.2.1 = y.2.1 ∧ RelV x.2.2 y.2.2) xs ys ∧ es.toList = ys.map (entryOfKey (nestedKind W.P W.w))
def KyO (W : Wd) (a : Addr) (xs : List (NestedKey × Addr × V)) : HO := .ext (KyP W a xs)
def Ex (H H' : Hp) : Prop := ∀ p x, H p = some x → H' p = some x
theorem Ex.refl (H : Hp) : Ex H H := fun _ _ => id
theorem Ex.trans {H H1 H2 : Hp} (u : Ex H H1) (v : Ex H1 H2) : Ex H H2 := fun p x e => v p x (u p x e)
theorem Ex.new {H : Hp} {p : Addr} {o : HO} (free : H p = none) : Ex H (upd H p o) := fun b x e => (upd_ne (ne_of_none e free)).trans e
theorem Ex.mut {H H' : Hp} {p : Addr} {o : HO} (e : Ex H H') (free : H p = none) : Ex H (upd H' p o) := fun b x eb => (upd_ne (ne_of_none eb free)).trans (e b x eb)
theorem Ex.both {H H' : Hp} {p : Addr} {o : HO} (e : Ex H H') : Ex (upd H p o) (upd H' p o) := fun a u ha => by
  by_cases h : a = p
  · subst h
    rw [upd_same] at ha ⊢
    exact ha
  · rw [upd_ne h] at ha ⊢
    exact e a u ha
theorem Ex.back {H H' : Hp} {p : Addr} (e : Ex H H') (h : H' p = none) : H p = none := by
  cases h1 : H p with
  | none => rfl
  | some o =>
    rw [e p o h1] at h
    cases h
theorem Ex.rd {H H' : Hp} {a : Addr} {u : HO} (e : Ex H H') (h : Rd H a u) : Rd H' a u := by
  rcases h with h | ⟨o, h⟩
  · exact Or.inl (e a _ h)
  · exact Or.inr ⟨o, e a _ h⟩
theorem Ex.l {K : PySem.W.Frag} {H H' : Hp} {a : Addr} {xs : List V} (e : Ex H H') (h : SqL K H a xs) : SqL K H' a xs := by
  rcases h with h | h
  · exact Or.inl (e.rd h)
  · exact Or.inr h
theorem Ex.t {K : PySem.W.Frag} {H H' : Hp} {a : Addr} {xs : List V} (e : Ex H H') (h : SqT K H a xs) : SqT K H' a xs := by
  rcases h with h | h
  · exact Or.inl (e.rd h)
  · exact Or.inr h
/-! ### a value stands for a data tree in a known heap -/
mutual
inductive Rp (W : Wd) (H : Hp) : V → D → Prop
  | non : Rp W H .non .non
  | bl (b : Bool) : Rp W H (.bl b) (.bl b)
  | int (i : Int) : Rp W H (.int i) (.int i)
  | str (x : Str) : Rp W H (.str x) (.str x)
  | lst {a : Addr} {xs : List V} {ds : List D} : H a = some (.lst xs) → RpA W H xs ds → Rp W H (.ref a) (.lst ds)
  | sq {a : Addr} {xs : List V} {ds : List D} : SqL W.K H a xs → RpA W H xs ds → Rp W H (.ref a) (.sq ds)
  | tup {a : Addr} {xs : List V} {ds : List D} : SqT W.K H a xs → RpA W H xs ds → Rp W H (.ref a) (.tup ds)
  | dk {a : Addr} {kvs : List (Key × V)} {ks : List Key} {vs : List D} : H a = some (.dK kvs) → kvs.map (·.1) = ks → RpA W H (kvs.map (·.2)) vs → Rp W H (.ref a) (.dk ks vs)
  | ins {a C dx : Addr} {fs : List (Str × V)} {ns : List Str} {vs : List D} : H a = some (.ins C dx fs) → fs.map (·.1) = ns → RpA W H (fs.map (·.2)) vs → Rp W H (.ref a) (.ins C ns vs)
  | dt {a : Addr} {o : Obj} {xs : List (NestedKey × Addr × V)} {ks vs : List D} : H a = some (.frz o (KyO W a xs)) → xs.map (·.1) = D.nks ks → RpA W H (xs.map fun x => .ref x.2.1) ks → RpA W H (xs.map (·.2.2)) vs → Rp W H (.ref a) (.dt ks vs)
inductive RpA (W : Wd) (H : Hp) : List V → List D → Prop
  | nil : RpA W H [] []
  | cons {v : V} {vs : List V} {d : D} {ds : List D} : Rp W H v d → RpA W H vs ds → RpA W H (v :: vs) (d :: ds)
end
section
variable {W : Wd} {H H' : Hp}
mutual
theorem Rp.mono (e : Ex H H') : ∀ (d : D) (v : V), Rp W H v d → Rp W H' v d
  | .non, _, h => by
    cases h
    exact .non
  | .bl b, _, h => by
    cases h
    exact .bl b
  | .int i, _, h => by
    cases h
    exact .int i
  | .str x, _, h => by
    cases h
    exact .str x
  | .lst ds, _, h => by
    cases h with
    | lst a b => exact .lst (e _ _ a) (RpA.mono e ds _ b)
  | .sq ds, _, h => by
    cases h with
    | sq a b => exact .sq (e.l a) (RpA.mono e ds _ b)
  | .tup ds, _, h => by
    cases h with
    | tup a b => exact .tup (e.t a) (RpA.mono e ds _ b)
  | .dk ks vs, _, h => by
    cases h with
    | dk a b c => exact .dk (e _ _ a) b (RpA.mono e vs _ c)
  | .ins C ns vs, _, h => by
    cases h with
    | ins a b c => exact .ins (e _ _ a) b (RpA.mono e vs _ c)
  | .dt ks vs, _, h => by
    cases h with
    | dt a b c d => exact .dt (e _ _ a) b (RpA.mono e ks _ c) (RpA.mono e vs _ d)
theorem RpA.mono (e : Ex H H') : ∀ (ds : List D) (vs : List V), RpA W H vs ds → RpA W H' vs ds
  | [], _, h => by
    cases h
    exact .nil
  | d :: ds, _, h => by
    cases h with
    | cons a b => exact .cons (Rp.mono e d _ a) (RpA.mono e ds _ b)
end
theorem Rp.up {v : V} {d : D} (h : Rp W H v d) (e : Ex H H') : Rp W H' v d := Rp.mono e d v h
theorem RpA.up {v : List V} {d : List D} (h : RpA W H v d) (e : Ex H H') : RpA W H' v d := RpA.mono e d v h
theorem RpA.length : ∀ {vs : List V} {ds : List D}, RpA W H vs ds → vs.length = ds.length
  | _, _, .nil => rfl
  | _, _, .cons _ t => by rw [List.length_cons, List.length_cons, RpA.length t]
theorem RpA.get : ∀ {vs : List V} {ds : List D} {i : Nat} {d : D}, RpA W H vs ds → ds[i]? = some d → ∃ v, vs[i]? = some v ∧ Rp W H v d
  | _, _, _, _, .nil, z => absurd z (by simp)
  | _, _, 0, _, .cons r _, z => Option.some.inj z ▸ ⟨_, rfl, r⟩
  | _, _, k + 1, _, .cons _ t, z => let ⟨u, h, r⟩ := RpA.get (i := k) t z; ⟨u, h, r⟩
theorem RpA.getV : ∀ {vs : List V} {ds : List D} {i : Nat} {v : V}, RpA W H vs ds → vs[i]? = some v → ∃ d, ds[i]? = some d ∧ Rp W H v d
  | _, _, _, _, .nil, z => absurd z (by simp)
  | _, _, 0, _, .cons r _, z => Option.some.inj z ▸ ⟨_, rfl, r⟩
  | _, _, k + 1, _, .cons _ t, z => let ⟨u, h, r⟩ := RpA.getV (i := k) t z; ⟨u, h, r⟩
theorem RpA.append : ∀ {vs ws : List V} {ds es : List D}, RpA W H vs ds → RpA W H ws es → RpA W H (vs ++ ws) (ds ++ es)
  | _, _, _, _, .nil, h => h
  | _, _, _, _, .cons a t, h => .cons a (RpA.append t h)
theorem RpA.snoc {vs : List V} {ds : List D} {v : V} {d : D} (h : RpA W H vs ds) (g : Rp W H v d) : RpA W H (vs ++ [v]) (ds ++ [d]) := h.append (.cons g .nil)
theorem RpA.set : ∀ {vs : List V} {ds : List D} {v : V} {d : D} (i : Nat), RpA W H vs ds → Rp W H v d → RpA W H (vs.set i v) (ds.set i d)
  | _, _, _, _, _, .nil, _ => .nil
  | _, _, _, _, 0, .cons _ t, g => .cons g t
  | _, _, _, _, i + 1, .cons a t, g => .cons a (RpA.set i t g)
theorem RpA.take : ∀ {vs : List V} {ds : List D} (n : Nat), RpA W H vs ds → RpA W H (vs.take n) (ds.take n)
  | _, _, 0, _ => .nil
  | _, _, _ + 1, .nil => .nil
  | _, _, n + 1, .cons r t => .cons r (RpA.take n t)
theorem RpA.drop : ∀ {vs : List V} {ds : List D} (n : Nat), RpA W H vs ds → RpA W H (vs.drop n) (ds.drop n)
  | _, _, 0, r => r
  | _, _, _ + 1, .nil => .nil
  | _, _, n + 1, .cons _ t => RpA.drop n t
theorem RpA.reverse : ∀ {vs : List V} {ds : List D}, RpA W H vs ds → RpA W H vs.reverse ds.reverse
  | _, _, .nil => .nil
  | _, _, .cons a t => by
    rw [List.reverse_cons, List.reverse_cons]
    exact (RpA.reverse t).snoc a
/-- plain lists of one kind -/
theorem RpA.ints : ∀ {vs : List V} {ns : List Int}, RpA W H vs (ns.map D.int) → vs = ns.map V.int
  | _, [], .nil => rfl
  | _, n :: ns, .cons a t => by
    cases a
    rw [RpA.ints t]
    rfl
theorem RpA.strs : ∀ {vs : List V} {ns : List Str}, RpA W H vs (ns.map D.str) → vs = ns.map V.str
  | _, [], .nil => rfl
  | _, n :: ns, .cons a t => by
    cases a
    rw [RpA.strs t]
    rfl
theorem RpA.bls : ∀ {vs : List V} {ns : List Bool}, RpA W H vs (ns.map D.bl) → vs = ns.map V.bl
  | _, [], .nil => rfl
  | _, n :: ns, .cons a t => by
    cases a
    rw [RpA.bls t]
    rfl
theorem RpA.of_ints : ∀ ns : List Int, RpA W H (ns.map V.int) (ns.map D.int)
  | [] => .nil
  | n :: ns => .cons (.int n) (RpA.of_ints ns)
theorem RpA.of_strs : ∀ ns : List Str, RpA W H (ns.map V.str) (ns.map D.str)
  | [] => .nil
  | n :: ns => .cons (.str n) (RpA.of_strs ns)
end
/-! ### worlds: a known heap within the heap -/
structure Grow (G H G' H' : Hp) : Prop where
  g : Ex G G'
  h : Ex H H'
  i : Ex G' H'
  n : ∀ a o, G' a = some o → G a = some o ∨ H a = none
theorem Grow.refl {G H : Hp} (i : Ex G H) : Grow G H G H := ⟨.refl _, .refl _, i, fun _ _ h => .inl h⟩
theorem Grow.trans {G H G1 H1 G2 H2 : Hp} (a : Grow G H G1 H1) (b : Grow G1 H1 G2 H2) : Grow G H G2 H2 :=
  ⟨a.g.trans b.g, a.h.trans b.h, b.i, fun x o h => by
    rcases b.n x o h with z | z
    · exact a.n x o z
    · exact .inr (a.h.back z)⟩
/-- a new object, known from now on -/
theorem Grow.new {G H : Hp} {p : Addr} {o : HO} (i : Ex G H) (h : H p = none) : Grow G H (upd G p o) (upd H p o) :=
  ⟨Ex.new (i.back h), Ex.new h, i.both, fun a u e => by
    by_cases z : a = p
    · subst z
      exact .inr h
    · rw [upd_ne z] at e
      exact .inl e⟩
/-- a new object, not known -/
theorem Grow.hid {G H : Hp} {p : Addr} {o : HO} (i : Ex G H) (h : H p = none) : Grow G H G (upd H p o) :=
  ⟨.refl _, Ex.new h, i.trans (Ex.new h), fun _ _ e => .inl e⟩
/-- an object becomes known that is new since the start -/
theorem Grow.know {G H G' H' : Hp} {p : Addr} {o : HO} (k : Grow G H G' H') (h0 : H p = none) (h : H' p = some o) : Grow G H (upd G' p o) H' :=
  ⟨fun a u e => by
    by_cases z : a = p
    · subst z
      have q := k.i a u (k.g a u e)
      rw [h] at q
      cases q
      exact upd_same
    · rw [upd_ne z]
      exact k.g a u e, k.h, fun a u e => by
    by_cases z : a = p
    · subst z
      rw [upd_same] at e
      cases e
      exact h
    · rw [upd_ne z] at e
      exact k.i a u e, fun a u e => by
    by_cases z : a = p
    · subst z
      exact .inr h0
    · rw [upd_ne z] at e
      exact k.n a u e⟩
end Fw
namespace Fw
open PySem PySem.Spec PyProof.Rows L2
/-! ### weakest readings -/
section
variable (X : Cx)
def wE (e : Expr) : TE := fun σ H Q => ∀ pins s, Inv X pins σ H s → wpAny (model X.prog X.w) X.A (eval e X.env) (EP X pins σ Q) X.xe s
def wT (e : Expr) : TT := fun σ H Q => ∀ pins s, Inv X pins σ H s → wpAny (model X.prog X.w) X.A (isTrue e X.env (eval e X.env)) (TP X pins σ Q) X.xe s
def wW (e : Expr) : TT := fun σ H Q => ∀ whole pins s, Inv X pins σ H s → wpAny (model X.prog X.w) X.A (isTrue e X.env whole) (TP X pins σ Q) X.xe s
def wA (es : List Expr) : TA := fun σ H Q => ∀ pos pins s, Inv X pins σ H s → wpAny (model X.prog X.w) X.A (spliced (backTo pos (starEach es X.env))) (AP X pins σ Q) X.xe s
def wS (st : Stmt) : TS := fun D σ H => ∀ pins s, Inv X pins σ H s → wpAny (model X.prog X.w) X.A (exec st X.env) (SP X pins D) X.xe s
def wSs (st : List Stmt) : TS := fun D σ H => ∀ pins s, Inv X pins σ H s → wpAny (model X.prog X.w) X.A (execs st X.env) (SP X pins D) X.xe s
def wG (tg : Expr) : TG := fun v σ H Q => ∀ pins s u, Inv X pins σ H s → RelV v u → wpAny (model X.prog X.w) X.A (assign tg X.env u) (fun _ s' => ∃ σ' H', Inv X pins σ' H' s' ∧ Q σ' H') X.xe s
def wGs (ts : List Expr) : TGs := fun vs σ H Q => ∀ pins s us, Inv X pins σ H s → Vals vs us → wpAny (model X.prog X.w) X.A (assignInOrder ((assignEach ts X.env).map (·.2)) us) (fun _ s' => ∃ σ' H', Inv X pins σ' H' s' ∧ Q σ' H') X.xe s
def wI (tg it : Expr) : TI := fun σ H R => ∀ pins s, Inv X pins σ H s → wpAny (model X.prog X.w) X.A (eval it X.env) (fun v s1 => wpAny (model X.prog X.w) X.A (pyIter v) (PIE X pins σ tg R) X.xe s1) X.xe s
end
section
variable {X : Cx} {e : Expr} {σ : L2.St} {H : Hp}
theorem pe_w : PE X e (wE X e) := ⟨fun pins s _ _ _ I h => h pins s I⟩
theorem wE.of {t : TE} {Q : VK} (p : PE X e t) (h : t σ H Q) : wE X e σ H Q := fun pins s I => p.run pins s σ H Q I h
theorem pt_w : PT X e (wT X e) := ⟨fun pins s _ _ _ I h => h pins s I⟩
theorem wT.of {t : TT} {Q : Bool → Hp → Prop} (p : PT X e t) (h : t σ H Q) : wT X e σ H Q := fun pins s I => p.run pins s σ H Q I h
theorem pw_w : PW X e (wW X e) := ⟨fun whole pins s _ _ _ I h => h whole pins s I⟩
theorem wW.of {t : TT} {Q : Bool → Hp → Prop} (p : PW X e t) (h : t σ H Q) : wW X e σ H Q := fun whole pins s I => p.run whole pins s σ H Q I h
theorem pa_w {es : List Expr} : PA X es (wA X es) := ⟨fun pos pins s _ _ _ I h => h pos pins s I⟩
theorem wA.of {es : List Expr} {t : TA} {Q : List V → Hp → Prop} (p : PA X es t) (h : t σ H Q) : wA X es σ H Q := fun pos pins s I => p.run pos pins s σ H Q I h
theorem ps_w {st : Stmt} : PS X st (wS X st) := ⟨fun pins s _ _ _ I h => h pins s I⟩
theorem wS.of {st : Stmt} {t : TS} {D : Ends} (p : PS X st t) (h : t D σ H) : wS X st D σ H := fun pins s I => p.run pins s σ H D I h
theorem pss_w {st : List Stmt} : PSs X st (wSs X st) := ⟨fun pins s _ _ _ I h => h pins s I⟩
theorem wSs.of {st : List Stmt} {t : TS} {D : Ends} (p : PSs X st t) (h : t D σ H) : wSs X st D σ H := fun pins s I => p.run pins s σ H D I h
theorem pg_w {tg : Expr} : PG X tg (wG X tg) := ⟨fun pins s _ _ _ u _ I r h => h pins s u I r⟩
theorem wG.of {tg : Expr} {t : TG} {v : V} {Q : L2.St → Hp → Prop} (p : PG X tg t) (h : t v σ H Q) : wG X tg v σ H Q := fun pins s u I r => p.run pins s σ H v u Q I r h
theorem pgs_w {ts : List Expr} : PGs X ts (wGs X ts) := ⟨fun pins s _ _ _ us _ I r h => h pins s us I r⟩
theorem wGs.of {ts : List Expr} {t : TGs} {vs : List V} {Q : L2.St → Hp → Prop} (p : PGs X ts t) (h : t vs σ H Q) : wGs X ts vs σ H Q := fun pins s us I r => p.run pins s σ H vs us Q I r h
theorem pi_w {tg it : Expr} : PI X tg it (wI X tg it) := ⟨fun pins s _ _ _ I h => h pins s I⟩
theorem wI.of {tg it : Expr} {t : TI} {R : It → Hp → Prop} (p : PI X tg it t) (h : t σ H R) : wI X tg it σ H R := fun pins s I => p.run pins s σ H R I h
end
/-! ### slots -/
inductive Fld where
  | im (d : D) | ow (p : Addr) (ds : List D)
inductive Slot where
  | no | im (d : D) | ow (p : Addr) (ds : List D) | ob (p C : Addr) (fs : List (Str × Fld)) | tp (p : Addr) (fs : List Fld) | dt (p : Addr) (ks vs : List D)
def Fld.fp : Fld → List Addr
  | .im _ => []
  | .ow p _ => [p]
def Slot.fp : Slot → List Addr
  | .no => []
  | .im _ => []
  | .ow p _ => [p]
  | .ob p _ fs => p :: fs.flatMap (·.2.fp)
  | .tp _ fs => fs.flatMap (·.fp)
  | .dt p _ _ => [p]
def FldAt (W : Wd) (G H : Hp) (v : V) : Fld → Prop
  | .im d => Rp W G v d
  | .ow p ds => v = .ref p ∧ ∃ vs, H p = some (.lst vs) ∧ RpA W G vs ds
inductive FldsAt (W : Wd) (G H : Hp) : List V → List Fld → Prop
  | nil : FldsAt W G H [] []
  | cons {v : V} {vs : List V} {f : Fld} {fs : List Fld} : FldAt W G H v f → FldsAt W G H vs fs → FldsAt W G H (v :: vs) (f :: fs)
def SlotAt (W : Wd) (G H : Hp) (v : V) : Slot → Prop
  | .no => True
  | .im d => Rp W G v d
  | .ow p ds => v = .ref p ∧ ∃ vs, H p = some (.lst vs) ∧ RpA W G vs ds
  | .ob p C fs => v = .ref p ∧ ∃ dx vfs, H p = some (.ins C dx vfs) ∧ vfs.map (·.1) = fs.map (·.1) ∧ FldsAt W G H (vfs.map (·.2)) (fs.map (·.2))
  | .tp p fs => v = .ref p ∧ ∃ vs, G p = some (.tup vs) ∧ FldsAt W G H vs fs
  | .dt p ks ds => v = .ref p ∧ ∃ xs, H p = some (KyO W p xs) ∧ xs.map (·.1) = D.nks ks ∧ RpA W G (xs.map fun x => .ref x.2.1) ks ∧ RpA W G (xs.map (·.2.2)) ds
structure Sls (W : Wd) (H0 G H : Hp) (σ : L2.St) (ss : List Slot) : Prop where
  len : σ.length = ss.length
  at_ : ∀ (i : Nat) s, ss[i]? = some s → s = .no ∨ ∃ v, σ[i]? = some (some v) ∧ SlotAt W G H v s
  off : ∀ (i : Nat) s, ss[i]? = some s → ∀ a ∈ s.fp, G a = none ∧ H0 a = none
  nd : ∀ (i : Nat) s, ss[i]? = some s → s.fp.Nodup
  dj : ∀ (i j : Nat) s t, i ≠ j → ss[i]? = some s → ss[j]? = some t → ∀ a ∈ s.fp, a ∉ t.fp
section
variable {W : Wd} {H0 G H G' H' : Hp} {σ : L2.St} {ss : List Slot} {v : V}
theorem FldAt.mono {f : Fld} (eg : Ex G G') (eh : Ex H H') (h : FldAt W G H v f) : FldAt W G' H' v f := by
  cases f with
  | im d => exact Rp.up h eg
  | ow p ds =>
    obtain ⟨e, vs, a, b⟩ := h
    exact ⟨e, vs, eh _ _ a, b.up eg⟩
theorem FldsAt.mono (eg : Ex G G') (eh : Ex H H') : ∀ {vs : List V} {fs : List Fld}, FldsAt W G H vs fs → FldsAt W G' H' vs fs
  | _, _, .nil => .nil
  | _, _, .cons a t => .cons (a.mono eg eh) (FldsAt.mono eg eh t)
theorem SlotAt.mono {s : Slot} (eg : Ex G G') (eh : Ex H H') (h : SlotAt W G H v s) : SlotAt W G' H' v s := by
  cases s with
  | no => trivial
  | im d => exact Rp.up h eg
  | ow p ds =>
    obtain ⟨e, vs, a, b⟩ := h
    exact ⟨e, vs, eh _ _ a, b.up eg⟩
  | ob p C fs =>
    obtain ⟨e, dx, vfs, a, b, c⟩ := h
    exact ⟨e, dx, vfs, eh _ _ a, b, c.mono eg eh⟩
  | tp p fs =>
    obtain ⟨e, vs, a, b⟩ := h
    exact ⟨e, vs, eg _ _ a, b.mono eg eh⟩
  | dt p ks ds =>
    obtain ⟨e, xs, a, b, c, d⟩ := h
    exact ⟨e, xs, eh _ _ a, b, c.up eg, d.up eg⟩
theorem FldAt.dom {f : Fld} (h : FldAt W G H v f) : ∀ a ∈ f.fp, ∃ o, H a = some o := by
  cases f with
  | im d => intro a ha; cases ha
  | ow p ds =>
    obtain ⟨e, vs, q, b⟩ := h
    intro a ha
    rw [List.mem_singleton.mp ha]
    exact ⟨_, q⟩
theorem FldsAt.dom : ∀ {vs : List V} {fs : List Fld}, FldsAt W G H vs fs → ∀ a ∈ fs.flatMap (·.fp), ∃ o, H a = some o
  | _, _, .nil, a, ha => by cases ha
  | _, _, .cons x t, a, ha => by
    rw [List.flatMap_cons] at ha
    rcases List.mem_append.mp ha with z | z
    · exact x.dom a z
    · exact FldsAt.dom t a z
theorem flat2 (fs : List (Str × Fld)) : fs.flatMap (·.2.fp) = (fs.map (·.2)).flatMap (·.fp) := by
  induction fs with
  | nil => rfl
  | cons x r ih => rw [List.flatMap_cons, List.map_cons, List.flatMap_cons, ih]
theorem SlotAt.dom {s : Slot} (h : SlotAt W G H v s) : ∀ a ∈ s.fp, ∃ o, H a = some o := by
  cases s with
  | no => intro a ha; cases ha
  | im d => intro a ha; cases ha
  | ow p ds =>
    obtain ⟨e, vs, q, b⟩ := h
    intro a ha
    rw [List.mem_singleton.mp ha]
    exact ⟨_, q⟩
  | ob p C fs =>
    obtain ⟨e, dx, vfs, q, b, c⟩ := h
    intro a ha
    rcases List.mem_cons.mp ha with z | z
    · rw [z]; exact ⟨_, q⟩
    · rw [flat2] at z
      exact c.dom a z
  | tp p fs =>
    obtain ⟨e, vs, q, b⟩ := h
    exact b.dom
  | dt p ks ds =>
    obtain ⟨e, xs, q, _⟩ := h
    intro a ha
    rw [List.mem_singleton.mp ha]
    exact ⟨_, q⟩
theorem Sls.dom (x : Sls W H0 G H σ ss) {i : Nat} {s : Slot} (h : ss[i]? = some s) {a : Addr} (ha : a ∈ s.fp) : ∃ o, H a = some o := by
  rcases x.at_ i s h with z | ⟨v, _, z⟩
  · subst z
    cases ha
  · exact z.dom a ha
theorem Sls.grow (x : Sls W H0 G H σ ss) (k : Grow G H G' H') : Sls W H0 G' H' σ ss where
  len := x.len
  at_ := fun i s h => by
    rcases x.at_ i s h with z | ⟨v, e, z⟩
    · exact .inl z
    · exact .inr ⟨v, e, z.mono k.g k.h⟩
  off := fun i s h a ha => by
    obtain ⟨n1, n2⟩ := x.off i s h a ha
    obtain ⟨o, ho⟩ := x.dom h ha
    refine ⟨?_, n2⟩
    cases q : G' a with
    | none => rfl
    | some u =>
      rcases k.n a u q with z | z
      · rw [n1] at z; cases z
      · rw [ho] at z; cases z
  nd := x.nd
  dj := x.dj
theorem get_set {α : Type} {l : List α} {i j : Nat} {y z : α} (h : (l.set i y)[j]? = some z) : (j = i ∧ z = y ∧ i < l.length) ∨ (j ≠ i ∧ l[j]? = some z) := by
  by_cases e : j = i
  · subst e
    by_cases hl : j < l.length
    · rw [List.getElem?_set_self hl] at h
      cases h
      exact .inl ⟨rfl, rfl, hl⟩
    · rw [List.getElem?_eq_none (by simpa using hl)] at h
      cases h
  · rw [List.getElem?_set_ne (Ne.symm e)] at h
    exact .inr ⟨e, h⟩
/-- a slot gets another content: the owned things of the new content are new or were its own -/
theorem Sls.put (x : Sls W H0 G H σ ss) {i : Nat} {s : Slot} (hi : i < ss.length) (h : s = .no ∨ SlotAt W G H v s) (off : ∀ a ∈ s.fp, G a = none ∧ H0 a = none) (nd : s.fp.Nodup) (dj : ∀ (j : Nat) t, j ≠ i → ss[j]? = some t → ∀ a ∈ s.fp, a ∉ t.fp) :
    Sls W H0 G H (σ.set i (some v)) (ss.set i s) where
  len := by rw [List.length_set, List.length_set, x.len]
  at_ := fun j t e => by
    rcases get_set e with ⟨rfl, rfl, _⟩ | ⟨ne, e⟩
    · rcases h with z | z
      · exact .inl z
      · exact .inr ⟨v, List.getElem?_set_self (by rw [x.len]; exact hi), z⟩
    · rcases x.at_ j t e with z | ⟨u, e', z⟩
      · exact .inl z
      · exact .inr ⟨u, by rw [List.getElem?_set_ne (Ne.symm ne)]; exact e', z⟩
  off := fun j t e => by
    rcases get_set e with ⟨rfl, rfl, _⟩ | ⟨ne, e⟩
    · exact off
    · exact x.off j t e
  nd := fun j t e => by
    rcases get_set e with ⟨rfl, rfl, _⟩ | ⟨ne, e⟩
    · exact nd
    · exact x.nd j t e
  dj := fun j k t u ne e f a ha hb => by
    rcases get_set e with ⟨rfl, rfl, _⟩ | ⟨n1, e⟩
    · rcases get_set f with ⟨rfl, rfl, _⟩ | ⟨n2, f⟩
      · exact ne rfl
      · exact dj k u n2 f a ha hb
    · rcases get_set f with ⟨rfl, rfl, _⟩ | ⟨n2, f⟩
      · exact dj j t n1 ‹_› a hb ha
      · exact x.dj j k t u ne e f a ha hb
theorem Sls.im (x : Sls W H0 G H σ ss) {i : Nat} {d : D} (hi : i < ss.length) (h : Rp W G v d) : Sls W H0 G H (σ.set i (some v)) (ss.set i (.im d)) :=
  x.put hi (.inr h) (fun _ ha => nomatch ha) List.nodup_nil fun _ _ _ _ _ ha => nomatch ha
/-- a slot is forgotten -/
theorem Sls.drop (x : Sls W H0 G H σ ss) {i : Nat} {o : Option V} : Sls W H0 G H (σ.set i o) (ss.set i .no) where
  len := by rw [List.length_set, List.length_set, x.len]
  at_ := fun j t e => by
    rcases get_set e with ⟨rfl, rfl, _⟩ | ⟨ne, e⟩
    · exact .inl rfl
    · rcases x.at_ j t e with z | ⟨u, e', z⟩
      · exact .inl z
      · exact .inr ⟨u, by rw [List.getElem?_set_ne (Ne.symm ne)]; exact e', z⟩
  off := fun j t e => by
    rcases get_set e with ⟨rfl, rfl, _⟩ | ⟨ne, e⟩
    · exact fun _ ha => nomatch ha
    · exact x.off j t e
  nd := fun j t e => by
    rcases get_set e with ⟨rfl, rfl, _⟩ | ⟨ne, e⟩
    · exact List.nodup_nil
    · exact x.nd j t e
  dj := fun j k t u ne e f a ha hb => by
    rcases get_set e with ⟨rfl, rfl, _⟩ | ⟨n1, e⟩
    · cases ha
    · rcases get_set f with ⟨rfl, rfl, _⟩ | ⟨n2, f⟩
      · cases hb
      · exact x.dj j k t u ne e f a ha hb
theorem Sls.got (x : Sls W H0 G H σ ss) {i : Nat} {s : Slot} (h : ss[i]? = some s) (hs : s ≠ .no) : ∃ v, σ[i]? = some (some v) ∧ SlotAt W G H v s := by
  rcases x.at_ i s h with z | z
  · exact absurd z hs
  · exact z
theorem Sls.gim (x : Sls W H0 G H σ ss) {i : Nat} {d : D} (h : ss[i]? = some (.im d)) : ∃ v, σ[i]? = some (some v) ∧ Rp W G v d := x.got h (by intro z; cases z)
end
/-! ### expressions: what they evaluate to -/
section
variable (X : Cx) (ss : List Slot)
def EE (e : Expr) (d : D) : Prop := ∀ H0 G H σ, Ex G H → Sls (wd X) H0 G H σ ss → ∀ Q : VK, (∀ v G' H', Grow G H G' H' → Rp (wd X) G' v d → Q v H') → wE X e σ H Q
/-- a new list -/
def EO (e : Expr) (ds : List D) : Prop := ∀ H0 G H σ, Ex G H → Sls (wd X) H0 G H σ ss → ∀ Q : VK, (∀ p vs G' H', H p = none → Grow G H G' H' → G' p = none → H' p = some (.lst vs) → RpA (wd X) G' vs ds → Q (.ref p) H') → wE X e σ H Q
def ET (e : Expr) (b : Bool) : Prop := ∀ H0 G H σ, Ex G H → Sls (wd X) H0 G H σ ss → ∀ Q : Bool → Hp → Prop, (∀ G' H', Grow G H G' H' → Q b H') → wT X e σ H Q
def EW (e : Expr) (b : Bool) : Prop := ∀ H0 G H σ, Ex G H → Sls (wd X) H0 G H σ ss → ∀ Q : Bool → Hp → Prop, (∀ G' H', Grow G H G' H' → Q b H') → wW X e σ H Q
def EA (es : List Expr) (ds : List D) : Prop := ∀ H0 G H σ, Ex G H → Sls (wd X) H0 G H σ ss → ∀ Q : List V → Hp → Prop, (∀ vs G' H', Grow G H G' H' → RpA (wd X) G' vs ds → Q vs H') → wA X es σ H Q
end
section
variable {X : Cx} {ss : List Slot} {e a b : Expr} {pos : Pos}
theorem EE.cast {d d' : D} (h : EE X ss e d) (q : d = d') : EE X ss e d' := q ▸ h
theorem EO.cast {d d' : List D} (h : EO X ss e d) (q : d = d') : EO X ss e d' := q ▸ h
theorem ET.cast {d d' : Bool} (h : ET X ss e d) (q : d = d') : ET X ss e d' := q ▸ h
theorem EO.ee {ds : List D} (h : EO X ss e ds) : EE X ss e (.lst ds) := fun H0 G H σ i x Q k =>
  h H0 G H σ i x Q fun p vs G' H' hn g hg hp r => k _ _ _ (g.know hn hp) (.lst upd_same (r.up (Ex.new hg)))
theorem ee_var (i : Nat) {d : D} {x : Str} (h : ss[i]? = some (.im d)) (hN : X.N[i]? = some x := by first | kernel_rfl! | rfl) (hv : Vis X.env.scope x := by first | exact Or.inl (by kernel_rfl!) | exact Or.inr (Or.inl (by kernel_rfl!)) | exact Or.inr (Or.inr (by kernel_rfl!)) | exact Or.inl rfl | exact Or.inr (Or.inl rfl) | exact Or.inr (Or.inr rfl)) (hd : (x == ("__debug__" : Str)) = false := by decide)
    (hcd : (x == ("__classdict__" : Str)) = false := by decide) : EE X ss (.Name x pos) d := fun H0 G H σ i x Q k => by
  obtain ⟨v, e, r⟩ := x.gim h
  exact wE.of (pe_var hN hv hd hcd) ⟨v, e, k v G H (.refl i) r⟩
/-- .. the data told -/
theorem ee_v (i : Nat) (d : D) {x : Str} (h : ss[i]? = some (.im d) := by first | kernel_rfl! | rfl) (hN : X.N[i]? = some x := by first | kernel_rfl! | rfl) (hv : Vis X.env.scope x := by first | exact Or.inl (by kernel_rfl!) | exact Or.inr (Or.inl (by kernel_rfl!)) | exact Or.inr (Or.inr (by kernel_rfl!)) | exact Or.inl rfl | exact Or.inr (Or.inl rfl) | exact Or.inr (Or.inr rfl)) (hd : (x == ("__debug__" : Str)) = false := by decide)
    (hcd : (x == ("__classdict__" : Str)) = false := by decide) : EE X ss (.Name x pos) d := ee_var i h hN hv hd hcd
theorem ee_c {v : V} {d : D} (p : PE X e (tC v)) (h : ∀ G, Rp (wd X) G v d) : EE X ss e d := fun H0 G H σ i x Q k => wE.of p (k v G H (.refl i) (h G))
theorem ee_int {i : Int} {j} : EE X ss (.Constant (.int i) j pos) (.int i) := ee_c pe_int fun _ => .int i
theorem ee_str {i : Str} {j} : EE X ss (.Constant (.str i) j pos) (.str i) := ee_c pe_str fun _ => .str i
theorem ee_bl {i : Bool} {j} : EE X ss (.Constant (.bool i) j pos) (.bl i) := ee_c pe_bl fun _ => .bl i
theorem ee_non {j} : EE X ss (.Constant .none j pos) .non := ee_c pe_non fun _ => .non
theorem ee_globS {x : Str} {z : Str} {t : Tok} (hm : X.mg x = some (.str z t)) (hg : Gl X x := by first | kernel_rfl! | rfl) (hd : (x == ("__debug__" : Str)) = false := by decide) : EE X ss (.Name x pos) (.str z) := ee_c (pe_glob (v := .str z) hg hm ⟨t, rfl⟩ hd) fun _ => .str z
theorem ee_globI {x : Str} {z : Int} {t : Tok} (hm : X.mg x = some (.int z t)) (hg : Gl X x := by first | kernel_rfl! | rfl) (hd : (x == ("__debug__" : Str)) = false := by decide) : EE X ss (.Name x pos) (.int z) := ee_c (pe_glob (v := .int z) hg hm ⟨t, rfl⟩ hd) fun _ => .int z
/-- two operands, an operation on their values -/
theorem ee_two {d1 d2 d : D} {f : Expr} {r : R2} (p : PE X f (tOp r (wE X a) (wE X b))) (ha : EE X ss a d1) (hb : EE X ss b d2)
    (h : ∀ G H x y, Ex G H → Rp (wd X) G x d1 → Rp (wd X) G y d2 → ∀ Q : VK, (∀ v G' H', Grow G H G' H' → Rp (wd X) G' v d → Q v H') → r x y H Q) : EE X ss f d := fun H0 G H σ i s Q k =>
  wE.of p (ha H0 G H σ i s _ fun x G1 H1 g1 r1 => hb H0 G1 H1 σ g1.i (s.grow g1) _ fun y G2 H2 g2 r2 => h G2 H2 x y g2.i (r1.up g2.g) r2 Q fun v G' H' g r => k v G' H' (g1.trans (g2.trans g)) r)
theorem ee_op {d1 d2 d : D} {o : Operator} {r : R2} (ho : OpR X (binaryOp o) r) (ha : EE X ss a d1) (hb : EE X ss b d2)
    (h : ∀ G H x y, Ex G H → Rp (wd X) G x d1 → Rp (wd X) G y d2 → ∀ Q : VK, (∀ v G' H', Grow G H G' H' → Rp (wd X) G' v d → Q v H') → r x y H Q) : EE X ss (.BinOp a o b pos) d := ee_two (pe_op ho pe_w pe_w) ha hb h
theorem ee_cmp {d1 d2 d : D} {o : CmpOp} {r : R2} (ho : OpR X (compareOp o) r) (ha : EE X ss a d1) (hb : EE X ss b d2)
    (h : ∀ G H x y, Ex G H → Rp (wd X) G x d1 → Rp (wd X) G y d2 → ∀ Q : VK, (∀ v G' H', Grow G H G' H' → Rp (wd X) G' v d → Q v H') → r x y H Q) (hm : behindInMarks o b = false) : EE X ss (.Compare a [o] [b] pos) d := ee_two (pe_cmpR ho pe_w pe_w hm) ha hb h
theorem ee_opI {i j : Int} {o : Operator} {g : Int → Int → Int} {C : Int → Int → Prop} (ho : OpR X (binaryOp o) (rI C fun i j => .int (g i j))) (hc : C i j) (ha : EE X ss a (.int i)) (hb : EE X ss b (.int j)) : EE X ss (.BinOp a o b pos) (.int (g i j)) :=
  ee_op ho ha hb fun G H x y i rx ry Q k => by
    cases rx
    cases ry
    exact ⟨_, _, rfl, rfl, hc, k _ _ _ (.refl i) (.int _)⟩
theorem ee_opI0 {i j : Int} {o : Operator} {g : Int → Int → Int} (ho : OpR X (binaryOp o) (rI0 fun i j => .int (g i j))) (ha : EE X ss a (.int i)) (hb : EE X ss b (.int j)) : EE X ss (.BinOp a o b pos) (.int (g i j)) :=
  ee_op ho ha hb fun G H x y i rx ry Q k => by
    cases rx
    cases ry
    exact ⟨_, _, rfl, rfl, k _ _ _ (.refl i) (.int _)⟩
theorem ee_add {i j : Int} (ha : EE X ss a (.int i)) (hb : EE X ss b (.int j)) : EE X ss (.BinOp a .Add b pos) (.int (i + j)) := ee_opI0 op_add ha hb
theorem ee_sub {i j : Int} (ha : EE X ss a (.int i)) (hb : EE X ss b (.int j)) : EE X ss (.BinOp a .Sub b pos) (.int (i - j)) := ee_opI0 op_sub ha hb
theorem ee_mul {i j : Int} (hc : CMul i j) (ha : EE X ss a (.int i)) (hb : EE X ss b (.int j)) : EE X ss (.BinOp a .Mult b pos) (.int (i * j)) := ee_opI op_mul hc ha hb
theorem ee_mod {i j : Int} (hc : 0 < j) (ha : EE X ss a (.int i)) (hb : EE X ss b (.int j)) : EE X ss (.BinOp a .Mod b pos) (.int (i % j)) := ee_opI op_mod hc ha hb
theorem ee_fdiv {i j : Int} (hc : CDiv i j) (ha : EE X ss a (.int i)) (hb : EE X ss b (.int j)) : EE X ss (.BinOp a .FloorDiv b pos) (.int (i / j)) := ee_opI op_fdiv hc ha hb
theorem ee_cmpB0 {i j : Int} {o : CmpOp} {g : Int → Int → Bool} (ho : OpR X (compareOp o) (rI0 fun i j => .bl (g i j))) (ha : EE X ss a (.int i)) (hb : EE X ss b (.int j)) (hm : behindInMarks o b = false) : EE X ss (.Compare a [o] [b] pos) (.bl (g i j)) :=
  ee_cmp ho ha hb (fun G H x y i rx ry Q k => by
    cases rx
    cases ry
    exact ⟨_, _, rfl, rfl, k _ _ _ (.refl i) (.bl _)⟩) hm
theorem ee_lt {i j : Int} (ha : EE X ss a (.int i)) (hb : EE X ss b (.int j)) : EE X ss (.Compare a [.Lt] [b] pos) (.bl (decide (i < j))) := ee_cmpB0 op_lt ha hb (nomark _)
theorem ee_le {i j : Int} (ha : EE X ss a (.int i)) (hb : EE X ss b (.int j)) : EE X ss (.Compare a [.LtE] [b] pos) (.bl (decide (i ≤ j))) := ee_cmpB0 op_le ha hb (nomark _)
theorem ee_gt {i j : Int} (ha : EE X ss a (.int i)) (hb : EE X ss b (.int j)) : EE X ss (.Compare a [.Gt] [b] pos) (.bl (decide (j < i))) := ee_cmpB0 op_gt ha hb (nomark _)
theorem ee_ge {i j : Int} (ha : EE X ss a (.int i)) (hb : EE X ss b (.int j)) : EE X ss (.Compare a [.GtE] [b] pos) (.bl (decide (j ≤ i))) := ee_cmpB0 op_ge ha hb (nomark _)
end
end Fw
namespace Fw
open PySem PySem.Spec PyProof.Rows L2
/-! ### data as the library's data -/
mutual
def D.py : D → PyData
  | .non => .none
  | .bl b => .bool b
  | .int i => .int i
  | .str x => .str x
  | .lst xs => .list (D.pys xs)
  | .tup xs => .tuple (D.pys xs)
  | _ => .none
def D.pys : List D → List PyData
  | [] => []
  | d :: ds => d.py :: D.pys ds
end
mutual
/-- plain, no bools, texts of code points, at most n deep -/
def D.ok : Nat → D → Bool
  | _, .non => true
  | _, .int _ => true
  | _, .str x => PyData.strOk x
  | n + 1, .lst xs => D.oks n xs
  | n + 1, .tup xs => D.oks n xs
  | _, _ => false
def D.oks : Nat → List D → Bool
  | _, [] => true
  | n, d :: ds => D.ok n d && D.oks n ds
end
theorem D.pys_map : ∀ ds : List D, D.pys ds = ds.map D.py
  | [] => rfl
  | d :: ds => by rw [D.pys, D.pys_map ds]; rfl
theorem D.oks_all : ∀ (n : Nat) (ds : List D), D.oks n ds = ds.all (D.ok n)
  | _, [] => rfl
  | n, d :: ds => by rw [D.oks, D.oks_all n ds]; rfl
theorem D.nks_map : ∀ ds : List D, D.nks ds = ds.map D.nk
  | [] => rfl
  | d :: ds => by rw [D.nks, D.nks_map ds]; rfl
section
variable {W : Wd} {H : Hp}
mutual
theorem Rp.dp : ∀ (n : Nat) (d : D) (v : V), D.ok n d = true → Rp W H v d → Dp W.K H v d.py
  | _, .non, _, _, h => by cases h; exact .non
  | _, .bl b, _, o, h => by cases h; exact .bl b
  | _, .int i, _, _, h => by cases h; exact .int i
  | _, .str x, _, _, h => by cases h; exact .str x
  | 0, .lst ds, _, o, h => by simp [D.ok] at o
  | 0, .tup ds, _, o, h => by simp [D.ok] at o
  | n + 1, .lst ds, _, o, h => by
    cases h with
    | lst a b => exact .lst (SqL.of a) (RpA.dp n ds _ (by simpa [D.ok] using o) b)
  | n + 1, .tup ds, _, o, h => by
    cases h with
    | tup a b => exact .tup a (RpA.dp n ds _ (by simpa [D.ok] using o) b)
  | _, .dk _ _, _, o, _ => by simp [D.ok] at o
  | _, .ins _ _ _, _, o, _ => by simp [D.ok] at o
  | _, .dt _ _, _, o, _ => by simp [D.ok] at o
  | _, .sq _, _, o, _ => by simp [D.ok] at o
theorem RpA.dp : ∀ (n : Nat) (ds : List D) (vs : List V), D.oks n ds = true → RpA W H vs ds → DpAll W.K H vs (D.pys ds)
  | _, [], _, _, h => by cases h; exact .nil
  | n, d :: ds, _, o, h => by
    rw [D.oks, Bool.and_eq_true] at o
    cases h with
    | cons a b => exact .cons (Rp.dp n d _ o.1 a) (RpA.dp n ds _ o.2 b)
end
end
mutual
theorem D.lay : ∀ (n : Nat) (d : D), D.ok n d = true → d.py.canLay0 = true ∧ d.py.depth ≤ n
  | _, .non, _ => ⟨rfl, Nat.zero_le _⟩
  | _, .bl b, o => by simp [D.ok] at o
  | _, .int i, _ => ⟨rfl, Nat.zero_le _⟩
  | _, .str x, o => ⟨by simpa [D.ok, D.py, PyData.canLay0] using o, Nat.zero_le _⟩
  | 0, .lst ds, o => by simp [D.ok] at o
  | 0, .tup ds, o => by simp [D.ok] at o
  | n + 1, .lst ds, o => by
    obtain ⟨a, b⟩ := D.lays n ds (by simpa [D.ok] using o)
    refine ⟨by simpa [D.py, PyData.canLay0] using a, ?_⟩
    simp only [D.py, PyData.depth]
    omega
  | n + 1, .tup ds, o => by
    obtain ⟨a, b⟩ := D.lays n ds (by simpa [D.ok] using o)
    refine ⟨by simpa [D.py, PyData.canLay0] using a, ?_⟩
    simp only [D.py, PyData.depth]
    omega
  | _, .dk _ _, o => by simp [D.ok] at o
  | _, .ins _ _ _, o => by simp [D.ok] at o
  | _, .dt _ _, o => by simp [D.ok] at o
  | _, .sq _, o => by simp [D.ok] at o
theorem D.lays : ∀ (n : Nat) (ds : List D), D.oks n ds = true → PyData.canLayAll0 (D.pys ds) = true ∧ PyData.depthAll (D.pys ds) ≤ n
  | _, [], _ => ⟨rfl, Nat.zero_le _⟩
  | n, d :: ds, o => by
    rw [D.oks, Bool.and_eq_true] at o
    obtain ⟨a, b⟩ := D.lay n d o.1
    obtain ⟨a', b'⟩ := D.lays n ds o.2
    simp only [D.pys, PyData.canLayAll0, PyData.depthAll, Bool.and_eq_true]
    exact ⟨⟨a, a'⟩, by omega⟩
end
theorem D.shaped {n : Nat} {d : D} (o : D.ok n d = true) (hn : n ≤ 64) : SeqAt.shaped d.py = true := by
  obtain ⟨a, b⟩ := D.lay n d o
  show (d.py.canLay0 && decide (d.py.depth ≤ 64)) = true
  rw [Bool.and_eq_true]
  exact ⟨a, decide_eq_true (by omega)⟩
mutual
theorem D.eqv : ∀ (n m : Nat) (d e : D), D.ok n d = true → D.ok m e = true → (PyData.eqv d.py e.py = true ↔ d = e)
  | _, _, .non, e, o, p => by cases e <;> simp_all [D.py, D.ok, PyData.eqv]
  | _, _, .bl b, e, o, p => by simp [D.ok] at o
  | _, _, .int i, e, o, p => by cases e <;> simp_all [D.py, D.ok, PyData.eqv]
  | _, _, .str x, e, o, p => by cases e <;> simp_all [D.py, D.ok, PyData.eqv]
  | 0, _, .lst ds, e, o, p => by simp [D.ok] at o
  | 0, _, .tup ds, e, o, p => by simp [D.ok] at o
  | n + 1, m, .lst ds, e, o, p => by
    cases e with
    | lst es =>
      cases m with
      | zero => simp [D.ok] at p
      | succ m =>
        have := D.eqvs n m ds es (by simpa [D.ok] using o) (by simpa [D.ok] using p)
        simp only [D.py, PyData.eqv, D.lst.injEq]
        exact this
    | _ => simp_all [D.py, D.ok, PyData.eqv]
  | n + 1, m, .tup ds, e, o, p => by
    cases e with
    | tup es =>
      cases m with
      | zero => simp [D.ok] at p
      | succ m =>
        have := D.eqvs n m ds es (by simpa [D.ok] using o) (by simpa [D.ok] using p)
        simp only [D.py, PyData.eqv, D.tup.injEq]
        exact this
    | _ => simp_all [D.py, D.ok, PyData.eqv]
  | _, _, .dk _ _, e, o, p => by simp [D.ok] at o
  | _, _, .ins _ _ _, e, o, p => by simp [D.ok] at o
  | _, _, .dt _ _, e, o, p => by simp [D.ok] at o
  | _, _, .sq _, e, o, p => by simp [D.ok] at o
theorem D.eqvs : ∀ (n m : Nat) (ds es : List D), D.oks n ds = true → D.oks m es = true → (PyData.eqvAll (D.pys ds) (D.pys es) = true ↔ ds = es)
  | _, _, [], [], _, _ => by simp [D.pys, PyData.eqvAll]
  | _, _, [], e :: es, _, _ => by simp [D.pys, PyData.eqvAll]
  | _, _, d :: ds, [], _, _ => by simp [D.pys, PyData.eqvAll]
  | n, m, d :: ds, e :: es, o, p => by
    rw [D.oks, Bool.and_eq_true] at o p
    simp only [D.pys, PyData.eqvAll, Bool.and_eq_true, List.cons.injEq]
    rw [D.eqv n m d e o.1 p.1, D.eqvs n m ds es o.2 p.2]
end
end Fw
namespace Fw
open PySem PySem.Spec PyProof.Rows L2
/-- what a rule by values is to give: data d -/
def Giv (W : Wd) (G H : Hp) (d : D) (Q : VK) : Prop := ∀ v G' H', Grow G H G' H' → Rp W G' v d → Q v H'
/-- a new list -/
def GivO (W : Wd) (G H : Hp) (ds : List D) (Q : VK) : Prop := ∀ p vs G' H', H p = none → Grow G H G' H' → G' p = none → H' p = some (.lst vs) → RpA W G' vs ds → Q (.ref p) H'
theorem Giv.here {W : Wd} {G H : Hp} {d : D} {Q : VK} (k : Giv W G H d Q) (i : Ex G H) {v : V} (r : Rp W G v d) : Q v H := k v G H (.refl i) r
theorem GivO.new {W : Wd} {G H : Hp} {ds : List D} {Q : VK} (k : GivO W G H ds Q) (i : Ex G H) {p : Addr} (hp : H p = none) {vs : List V} (r : RpA W G vs ds) : Q (.ref p) (upd H p (.lst vs)) :=
  k p vs G _ hp (.hid i hp) (i.back hp) upd_same r
theorem Giv.tup {W : Wd} {G H : Hp} {ds : List D} {Q : VK} (k : Giv W G H (.tup ds) Q) (i : Ex G H) {p : Addr} (hp : H p = none) {vs : List V} (r : RpA W G vs ds) : Q (.ref p) (upd H p (.tup vs)) :=
  k _ _ _ (.new i hp) (.tup (SqT.of upd_same) (r.up (Ex.new (i.back hp))))
section
variable {X : Cx} {ss : List Slot} {e a b f : Expr} {es : List Expr} {pos p2 : Pos}
/-! ### arguments, displays -/
theorem ea_nil : EA X ss [] [] := fun H0 G H σ i s Q k => wA.of pa_nil (k [] G H (.refl i) .nil)
theorem ea_cons {d : D} {ds : List D} (ha : EE X ss e d) (hr : EA X ss es ds) (hs : starEach (e :: es) X.env = (false, eval e X.env) :: starEach es X.env := by first | kernel_rfl! | rfl) : EA X ss (e :: es) (d :: ds) := fun H0 G H σ i s Q k =>
  wA.of (pa_cons pe_w pa_w hs) (ha H0 G H σ i s _ fun v G1 H1 g1 r1 => hr H0 G1 H1 σ g1.i (s.grow g1) _ fun vs G2 H2 g2 r2 => k _ G2 H2 (g1.trans g2) (.cons (r1.up g2.g) r2))
theorem ee_tup {ds : List D} {x1} (h : EA X ss es ds) (hl : ds.length ≤ 100000 := by first | decide | exact of_decide_eq_true rfl) : EE X ss (.Tuple es x1 pos) (.tup ds) := fun H0 G H σ i s Q k =>
  wE.of (pe_tup pa_w) (h H0 G H σ i s _ fun vs G1 H1 g1 r1 => ⟨Nat.le_trans (by rw [r1.length]; exact hl) (by decide), fun p hp => k _ _ _ (g1.trans (.new g1.i hp)) (.tup (SqT.of upd_same) (r1.up (Ex.new (g1.i.back hp))))⟩)
theorem eo_lst {ds : List D} (h : EA X ss es ds) (hl : ds.length ≤ 100000 := by first | decide | exact of_decide_eq_true rfl) : EO X ss (.List es pos) ds := fun H0 G H σ i s Q k =>
  wE.of (pe_lst pa_w) (h H0 G H σ i s _ fun vs G1 H1 g1 r1 => ⟨Nat.le_trans (by rw [r1.length]; exact hl) (by decide), fun p hp => k p vs G1 _ (g1.h.back hp) (g1.trans (.hid g1.i hp)) (g1.i.back hp) upd_same r1⟩)
/-! ### a rule over one value, over arguments -/
theorem ee_one {d1 d : D} {r : V → Hp → VK → Prop} (p : PE X f (fun σ H Q => wE X a σ H fun x H1 => r x H1 Q)) (ha : EE X ss a d1)
    (h : ∀ G H x, Ex G H → Rp (wd X) G x d1 → ∀ Q : VK, Giv (wd X) G H d Q → r x H Q) : EE X ss f d := fun H0 G H σ i s Q k =>
  wE.of p (ha H0 G H σ i s _ fun x G1 H1 g1 r1 => h G1 H1 x g1.i r1 Q fun v G' H' g r => k v G' H' (g1.trans g) r)
theorem ee_cb {ds : List D} {d : D} {r : List V → Hp → VK → Prop} (p : PE X f (tCB r (wA X es))) (ha : EA X ss es ds)
    (h : ∀ G H xs, Ex G H → RpA (wd X) G xs ds → ∀ Q : VK, Giv (wd X) G H d Q → r xs H Q) : EE X ss f d := fun H0 G H σ i s Q k =>
  wE.of p (ha H0 G H σ i s _ fun x G1 H1 g1 r1 => h G1 H1 x g1.i r1 Q fun v G' H' g r => k v G' H' (g1.trans g) r)
theorem eo_cb {ds es' : List D} {r : List V → Hp → VK → Prop} (p : PE X f (tCB r (wA X es))) (ha : EA X ss es ds)
    (h : ∀ G H xs, Ex G H → RpA (wd X) G xs ds → ∀ Q : VK, GivO (wd X) G H es' Q → r xs H Q) : EO X ss f es' := fun H0 G H σ i s Q k =>
  wE.of p (ha H0 G H σ i s _ fun x G1 H1 g1 r1 => h G1 H1 x g1.i r1 Q fun p vs G' H' hn g hg hp r => k p vs G' H' (g1.h.back hn) (g1.trans g) hg hp r)
theorem eo_two {d1 d2 : D} {ds : List D} {r : R2} (p : PE X f (tOp r (wE X a) (wE X b))) (ha : EE X ss a d1) (hb : EE X ss b d2)
    (h : ∀ G H x y, Ex G H → Rp (wd X) G x d1 → Rp (wd X) G y d2 → ∀ Q : VK, GivO (wd X) G H ds Q → r x y H Q) : EO X ss f ds := fun H0 G H σ i s Q k =>
  wE.of p (ha H0 G H σ i s _ fun x G1 H1 g1 r1 => hb H0 G1 H1 σ g1.i (s.grow g1) _ fun y G2 H2 g2 r2 => h G2 H2 x y g2.i (r1.up g2.g) r2 Q fun p vs G' H' hn g hg hp r => k p vs G' H' ((g1.trans g2).h.back hn) (g1.trans (g2.trans g)) hg hp r)
/-! ### subscripts -/
theorem ee_ixL {ds : List D} {i : Int} {d : D} (ha : EE X ss a (.lst ds)) (hb : EE X ss b (.int i)) (hi : atI ds i = some d) (hs : PlainIx b := by intro _ _; rfl) : EE X ss (.Subscript a b pos) d :=
  ee_two (pe_ix ix_list pe_w pe_w hs) ha hb fun G H x y i rx ry Q k => by
    cases rx with
    | lst q r =>
      cases ry
      obtain ⟨j, e1, e2, _⟩ := atI_get hi
      obtain ⟨v, e3, r3⟩ := r.get e2
      refine ⟨_, _, _, v, rfl, rfl, SqL.of (i _ _ q), ?_, Giv.here k i r3⟩
      unfold atI at hi ⊢
      rw [r.length]
      cases e : ixN ds.length _ with
      | none => rw [e] at hi; cases hi
      | some j' =>
        rw [e] at hi
        have z := (ixN_seq e).1
        rw [e1] at z
        cases z
        exact e3
theorem ee_ixT {ds : List D} {i : Int} {d : D} (ha : EE X ss a (.tup ds)) (hb : EE X ss b (.int i)) (hi : atI ds i = some d) (hs : PlainIx b := by intro _ _; rfl) : EE X ss (.Subscript a b pos) d :=
  ee_two (pe_ix ix_tup pe_w pe_w hs) ha hb fun G H x y i rx ry Q k => by
    cases rx with
    | tup q r =>
      cases ry
      obtain ⟨j, e1, e2, _⟩ := atI_get hi
      obtain ⟨v, e3, r3⟩ := r.get e2
      refine ⟨_, _, _, v, rfl, rfl, i.t q, ?_, Giv.here k i r3⟩
      unfold atI at hi ⊢
      rw [r.length]
      cases e : ixN ds.length _ with
      | none => rw [e] at hi; cases hi
      | some j' =>
        rw [e] at hi
        have z := (ixN_seq e).1
        rw [e1] at z
        cases z
        exact e3
theorem ee_ixS {z : Str} {i : Int} {c : Nat} (ha : EE X ss a (.str z)) (hb : EE X ss b (.int i)) (hz : z.length ≤ 100000) (hi : atI z.cps.toList i = some c) (hs : PlainIx b := by intro _ _; rfl) : EE X ss (.Subscript a b pos) (.str ⟨#[c]⟩) :=
  ee_two (pe_ix ix_str pe_w pe_w hs) ha hb fun G H x y i rx ry Q k => by
    cases rx
    cases ry
    exact ⟨_, _, _, rfl, rfl, Nat.le_trans hz (by decide), hi, Giv.here k i (.str _)⟩
/-! ### built-ins -/
section
variable {x : Str} {p : Pos} {id T : String}
theorem ee_B {ds : List D} {d : D} {r : List V → Hp → VK → Prop} (hc : CallR X (.builtin id) r) (hm : X.mg x = none) (hv : bootBuiltins x = some (.builtin id)) (ha : EA X ss (e :: es) ds)
    (h : ∀ G H xs, Ex G H → RpA (wd X) G xs ds → ∀ Q : VK, Giv (wd X) G H d Q → r xs H Q) (hg : Gl X x) (hn : x ≠ "__name__") (hdb : (x == ("__debug__" : Str)) = false)
    (he : starEach (e :: es) X.env = (false, eval e X.env) :: starEach es X.env) (hpl : (backTo pos (starEach es X.env)).any (·.1) = false) : EE X ss (.Call (.Name x p) (e :: es) [] pos) d :=
  ee_cb (pe_callB hc hg hm hv pa_w hn hdb he hpl) ha h
theorem ee_Ty {ds : List D} {d : D} {r : List V → Hp → VK → Prop} (hc : CallR X (.type T) r) (hm : X.mg x = none) (hv : bootBuiltins x = some (.type T)) (ha : EA X ss (e :: es) ds)
    (h : ∀ G H xs, Ex G H → RpA (wd X) G xs ds → ∀ Q : VK, Giv (wd X) G H d Q → r xs H Q) (hg : Gl X x) (hn : x ≠ "__name__") (hdb : (x == ("__debug__" : Str)) = false)
    (he : starEach (e :: es) X.env = (false, eval e X.env) :: starEach es X.env) (hpl : (backTo pos (starEach es X.env)).any (·.1) = false) : EE X ss (.Call (.Name x p) (e :: es) [] pos) d :=
  ee_cb (pe_callTy hc hg hm hv pa_w hn hdb he hpl) ha h
theorem eo_Ty {ds es' : List D} {r : List V → Hp → VK → Prop} (hc : CallR X (.type T) r) (hm : X.mg x = none) (hv : bootBuiltins x = some (.type T)) (ha : EA X ss (e :: es) ds)
    (h : ∀ G H xs, Ex G H → RpA (wd X) G xs ds → ∀ Q : VK, GivO (wd X) G H es' Q → r xs H Q) (hg : Gl X x) (hn : x ≠ "__name__") (hdb : (x == ("__debug__" : Str)) = false)
    (he : starEach (e :: es) X.env = (false, eval e X.env) :: starEach es X.env) (hpl : (backTo pos (starEach es X.env)).any (·.1) = false) : EO X ss (.Call (.Name x p) (e :: es) [] pos) es' :=
  eo_cb (pe_callTy hc hg hm hv pa_w hn hdb he hpl) ha h
theorem eo_B {ds es' : List D} {r : List V → Hp → VK → Prop} (hc : CallR X (.builtin id) r) (hm : X.mg x = none) (hv : bootBuiltins x = some (.builtin id)) (ha : EA X ss (e :: es) ds)
    (h : ∀ G H xs, Ex G H → RpA (wd X) G xs ds → ∀ Q : VK, GivO (wd X) G H es' Q → r xs H Q) (hg : Gl X x) (hn : x ≠ "__name__") (hdb : (x == ("__debug__" : Str)) = false)
    (he : starEach (e :: es) X.env = (false, eval e X.env) :: starEach es X.env) (hpl : (backTo pos (starEach es X.env)).any (·.1) = false) : EO X ss (.Call (.Name x p) (e :: es) [] pos) es' :=
  eo_cb (pe_callB hc hg hm hv pa_w hn hdb he hpl) ha h
variable (hm : X.mg "len" = none)
include hm in
theorem ee_lenL {ds : List D} (ha : EE X ss e (.lst ds)) (hg : Gl X "len" := by first | kernel_rfl! | rfl) (he : starEach [e] X.env = (false, eval e X.env) :: starEach [] X.env := by first | kernel_rfl! | rfl) (hpl : (backTo pos (starEach [] X.env)).any (·.1) = false := by first | kernel_rfl! | rfl) : EE X ss (.Call (.Name "len" p) [e] [] pos) (.int ds.length) :=
  ee_B call_len_seq hm PySem.boot_len (ea_cons ha ea_nil he) (fun G H xs i r Q k => by
    cases r with
    | cons r t =>
      cases t
      cases r with
      | lst q r => exact ⟨_, _, rfl, .inl (SqL.of (i _ _ q)), Giv.here k i (by rw [r.length]; exact .int _)⟩) hg (by decide) (by decide) he hpl
include hm in
theorem ee_lenT {ds : List D} (ha : EE X ss e (.tup ds)) (hg : Gl X "len" := by first | kernel_rfl! | rfl) (he : starEach [e] X.env = (false, eval e X.env) :: starEach [] X.env := by first | kernel_rfl! | rfl) (hpl : (backTo pos (starEach [] X.env)).any (·.1) = false := by first | kernel_rfl! | rfl) : EE X ss (.Call (.Name "len" p) [e] [] pos) (.int ds.length) :=
  ee_B call_len_seq hm PySem.boot_len (ea_cons ha ea_nil he) (fun G H xs i r Q k => by
    cases r with
    | cons r t =>
      cases t
      cases r with
      | tup q r => exact ⟨_, _, rfl, .inr (i.t q), Giv.here k i (by rw [r.length]; exact .int _)⟩) hg (by decide) (by decide) he hpl
include hm in
theorem ee_lenS {z : Str} (ha : EE X ss e (.str z)) (hz : z.length ≤ 100000) (hg : Gl X "len" := by first | kernel_rfl! | rfl) (he : starEach [e] X.env = (false, eval e X.env) :: starEach [] X.env := by first | kernel_rfl! | rfl) (hpl : (backTo pos (starEach [] X.env)).any (·.1) = false := by first | kernel_rfl! | rfl) : EE X ss (.Call (.Name "len" p) [e] [] pos) (.int z.length) :=
  ee_B call_len_str hm PySem.boot_len (ea_cons ha ea_nil he) (fun G H xs i r Q k => by
    cases r with
    | cons r t =>
      cases t
      cases r
      exact ⟨_, rfl, Nat.le_trans hz (by decide), Giv.here k i (.int _)⟩) hg (by decide) (by decide) he hpl
end
variable {p : Pos}
theorem eo_listL {ds : List D} (hm : X.mg "list" = none) (ha : EE X ss e (.lst ds)) (hg : Gl X "list" := by first | kernel_rfl! | rfl) (he : starEach [e] X.env = (false, eval e X.env) :: starEach [] X.env := by first | kernel_rfl! | rfl) (hpl : (backTo pos (starEach [] X.env)).any (·.1) = false := by first | kernel_rfl! | rfl) : EO X ss (.Call (.Name "list" p) [e] [] pos) ds :=
  eo_Ty call_list_of hm (by decide +kernel) (ea_cons ha ea_nil he) (fun G H xs i r Q k => by
    cases r with
    | cons r t =>
      cases t
      cases r with
      | lst q r => exact ⟨_, _, rfl, .inl (SqL.of (i _ _ q)), fun l hl => GivO.new k i hl r⟩) hg (by decide) (by decide) he hpl
theorem eo_listT {ds : List D} (hm : X.mg "list" = none) (ha : EE X ss e (.tup ds)) (hg : Gl X "list" := by first | kernel_rfl! | rfl) (he : starEach [e] X.env = (false, eval e X.env) :: starEach [] X.env := by first | kernel_rfl! | rfl) (hpl : (backTo pos (starEach [] X.env)).any (·.1) = false := by first | kernel_rfl! | rfl) : EO X ss (.Call (.Name "list" p) [e] [] pos) ds :=
  eo_Ty call_list_of hm (by decide +kernel) (ea_cons ha ea_nil he) (fun G H xs i r Q k => by
    cases r with
    | cons r t =>
      cases t
      cases r with
      | tup q r => exact ⟨_, _, rfl, .inr (i.t q), fun l hl => GivO.new k i hl r⟩) hg (by decide) (by decide) he hpl
theorem ee_tupleL {ds : List D} (hm : X.mg "tuple" = none) (ha : EE X ss e (.lst ds)) (hg : Gl X "tuple" := by first | kernel_rfl! | rfl) (he : starEach [e] X.env = (false, eval e X.env) :: starEach [] X.env := by first | kernel_rfl! | rfl) (hpl : (backTo pos (starEach [] X.env)).any (·.1) = false := by first | kernel_rfl! | rfl) : EE X ss (.Call (.Name "tuple" p) [e] [] pos) (.tup ds) :=
  ee_Ty call_tuple_of hm (by decide +kernel) (ea_cons ha ea_nil he) (fun G H xs i r Q k => by
    cases r with
    | cons r t =>
      cases t
      cases r with
      | lst q r => exact ⟨_, _, rfl, .inl ⟨SqL.of (i _ _ q), fun l hl => Giv.tup k i hl r⟩⟩) hg (by decide) (by decide) he hpl
theorem ee_all {bs : List Bool} (hm : X.mg "all" = none) (ha : EE X ss e (.lst (bs.map .bl))) (hc : X.calm = true := by first | kernel_rfl! | rfl) (hg : Gl X "all" := by first | kernel_rfl! | rfl) (he : starEach [e] X.env = (false, eval e X.env) :: starEach [] X.env := by first | kernel_rfl! | rfl) (hpl : (backTo pos (starEach [] X.env)).any (·.1) = false := by first | kernel_rfl! | rfl) : EE X ss (.Call (.Name "all" p) [e] [] pos) (.bl (bs.all id)) :=
  ee_B (cr_all hc) hm (by decide +kernel) (ea_cons ha ea_nil he) (fun G H xs i r Q k => by
    cases r with
    | cons r t =>
      cases t
      cases r with
      | lst q r =>
        have e := r.bls
        subst e
        exact ⟨_, bs, rfl, SqL.of (i _ _ q), Giv.here k i (.bl _)⟩) hg (by decide) (by decide) he hpl
theorem ee_any {bs : List Bool} (hm : X.mg "any" = none) (ha : EE X ss e (.lst (bs.map .bl))) (hc : X.calm = true := by first | kernel_rfl! | rfl) (hg : Gl X "any" := by first | kernel_rfl! | rfl) (he : starEach [e] X.env = (false, eval e X.env) :: starEach [] X.env := by first | kernel_rfl! | rfl) (hpl : (backTo pos (starEach [] X.env)).any (·.1) = false := by first | kernel_rfl! | rfl) : EE X ss (.Call (.Name "any" p) [e] [] pos) (.bl (bs.any id)) :=
  ee_B (cr_any hc) hm (by decide +kernel) (ea_cons ha ea_nil he) (fun G H xs i r Q k => by
    cases r with
    | cons r t =>
      cases t
      cases r with
      | lst q r =>
        have e := r.bls
        subst e
        exact ⟨_, bs, rfl, SqL.of (i _ _ q), Giv.here k i (.bl _)⟩) hg (by decide) (by decide) he hpl
theorem ee_abs {i : Int} (hm : X.mg "abs" = none) (ha : EE X ss e (.int i)) (hg : Gl X "abs" := by first | kernel_rfl! | rfl) (he : starEach [e] X.env = (false, eval e X.env) :: starEach [] X.env := by first | kernel_rfl! | rfl) (hpl : (backTo pos (starEach [] X.env)).any (·.1) = false := by first | kernel_rfl! | rfl) : EE X ss (.Call (.Name "abs" p) [e] [] pos) (.int (if i < 0 then -i else i)) :=
  ee_B call_abs hm (by decide +kernel) (ea_cons ha ea_nil he) (fun G H xs i r Q k => by
    cases r with
    | cons r t =>
      cases t
      cases r
      exact ⟨_, rfl, Giv.here k i (.int _)⟩) hg (by decide) (by decide) he hpl
theorem ee_max2 {i j : Int} (hm : X.mg "max" = none) (ha : EE X ss a (.int i)) (hb : EE X ss b (.int j)) (hc : X.calm = true := by first | kernel_rfl! | rfl) (hg : Gl X "max" := by first | kernel_rfl! | rfl) (he : starEach [a, b] X.env = (false, eval a X.env) :: starEach [b] X.env := by first | kernel_rfl! | rfl) (he2 : starEach [b] X.env = (false, eval b X.env) :: starEach [] X.env := by first | kernel_rfl! | rfl) (hpl : (backTo pos (starEach [b] X.env)).any (·.1) = false := by first | kernel_rfl! | rfl) : EE X ss (.Call (.Name "max" p) [a, b] [] pos) (.int (if j > i then j else i)) :=
  ee_B (call_max2 hc) hm (by decide +kernel) (ea_cons ha (ea_cons hb ea_nil he2) he) (fun G H xs i r Q k => by
    cases r with
    | cons r t =>
      cases t with
      | cons r' t =>
        cases t
        cases r
        cases r'
        exact ⟨_, _, rfl, Giv.here k i (.int _)⟩) hg (by decide) (by decide) he hpl
theorem ee_intI {i : Int} (hm : X.mg "int" = none) (ha : EE X ss e (.int i)) (hg : Gl X "int" := by first | kernel_rfl! | rfl) (he : starEach [e] X.env = (false, eval e X.env) :: starEach [] X.env := by first | kernel_rfl! | rfl) (hpl : (backTo pos (starEach [] X.env)).any (·.1) = false := by first | kernel_rfl! | rfl) : EE X ss (.Call (.Name "int" p) [e] [] pos) (.int i) :=
  ee_Ty call_int1 hm (by decide +kernel) (ea_cons ha ea_nil he) (fun G H xs i r Q k => by
    cases r with
    | cons r t =>
      cases t
      cases r
      exact .inl ⟨_, rfl, Giv.here k i (.int _)⟩) hg (by decide) (by decide) he hpl
theorem ee_intB {c : Bool} (hm : X.mg "int" = none) (ha : EE X ss e (.bl c)) (hg : Gl X "int" := by first | kernel_rfl! | rfl) (he : starEach [e] X.env = (false, eval e X.env) :: starEach [] X.env := by first | kernel_rfl! | rfl) (hpl : (backTo pos (starEach [] X.env)).any (·.1) = false := by first | kernel_rfl! | rfl) : EE X ss (.Call (.Name "int" p) [e] [] pos) (.int (if c then 1 else 0)) :=
  ee_Ty call_int1 hm (by decide +kernel) (ea_cons ha ea_nil he) (fun G H xs i r Q k => by
    cases r with
    | cons r t =>
      cases t
      cases r
      exact .inr ⟨_, rfl, Giv.here k i (.int _)⟩) hg (by decide) (by decide) he hpl
end
end Fw
namespace Fw
open PySem PySem.Spec PyProof.Rows L2
section
variable {X : Cx} {ss : List Slot} {e a b c f : Expr} {es rest : List Expr} {pos p2 : Pos}
/-! ### comparisons -/
def CmpD (X : Cx) (op : CmpOp) (d1 d2 : D) (c : Bool) : Prop := ∃ r, OpR X (compareOp op) r ∧ ∀ G H x y, Ex G H → Rp (wd X) G x d1 → Rp (wd X) G y d2 → ∀ Q : VK, Giv (wd X) G H (.bl c) Q → r x y H Q
theorem CmpD.cast {op : CmpOp} {d1 d2 : D} {c c' : Bool} (h : CmpD X op d1 d2 c) (e : c = c') : CmpD X op d1 d2 c' := e ▸ h
theorem ee_c2 {op : CmpOp} {d1 d2 : D} {k : Bool} (h : CmpD X op d1 d2 k) (ha : EE X ss a d1) (hb : EE X ss b d2) (hm : behindInMarks op b = false := by first | exact nomark _ | rfl) : EE X ss (.Compare a [op] [b] pos) (.bl k) := by
  obtain ⟨r, ho, h⟩ := h
  exact ee_cmp ho ha hb h hm
theorem et_c2 {op : CmpOp} {d1 d2 : D} {k : Bool} (h : CmpD X op d1 d2 k) (ha : EE X ss a d1) (hb : EE X ss b d2) (hm : behindInMarks op b = false := by first | exact nomark _ | rfl) : ET X ss (.Compare a [op] [b] pos) k := by
  obtain ⟨r, ho, h⟩ := h
  exact fun H0 G H σ i s Q q => wT.of (pt_cmpR ho pe_w pe_w hm) (ha H0 G H σ i s _ fun x G1 H1 g1 r1 => hb H0 G1 H1 σ g1.i (s.grow g1) _ fun y G2 H2 g2 r2 => h G2 H2 x y g2.i (r1.up g2.g) r2 _ fun v G' H' g r => by
    cases r
    exact ⟨_, rfl, q G' H' (g1.trans (g2.trans g))⟩)
theorem cmp_I {i j : Int} {op : CmpOp} {g : Int → Int → Bool} (ho : OpR X (compareOp op) (rI0 fun i j => .bl (g i j))) : CmpD X op (.int i) (.int j) (g i j) := ⟨_, ho, fun G H x y i rx ry Q k => by
  cases rx
  cases ry
  exact ⟨_, _, rfl, rfl, Giv.here k i (.bl _)⟩⟩
theorem cmp_lt {i j : Int} : CmpD X .Lt (.int i) (.int j) (decide (i < j)) := cmp_I op_lt
theorem cmp_le {i j : Int} : CmpD X .LtE (.int i) (.int j) (decide (i ≤ j)) := cmp_I op_le
theorem cmp_gt {i j : Int} : CmpD X .Gt (.int i) (.int j) (decide (j < i)) := cmp_I op_gt
theorem cmp_ge {i j : Int} : CmpD X .GtE (.int i) (.int j) (decide (j ≤ i)) := cmp_I op_ge
theorem cmp_ltS {x y : Str} : CmpD X .Lt (.str x) (.str y) (decide (x.cps.toList < y.cps.toList)) := ⟨_, op_lt_str, fun G H u v i rx ry Q k => by
  cases rx
  cases ry
  exact ⟨_, _, rfl, rfl, Giv.here k i (.bl _)⟩⟩
theorem cmp_eqI {m n : Int} : CmpD X .Eq (.int m) (.int n) (decide (m = n)) := ⟨_, op_eq, fun G H u v i rx ry Q k => by
  cases rx
  cases ry
  exact ⟨rfl, Giv.here k i (by rw [show decide (V.int m = V.int n) = decide (m = n) from by simp]; exact .bl _)⟩⟩
theorem cmp_eqS {x y : Str} : CmpD X .Eq (.str x) (.str y) (decide (x = y)) := ⟨_, op_eq, fun G H u v i rx ry Q k => by
  cases rx
  cases ry
  exact ⟨rfl, Giv.here k i (by rw [show decide (V.str x = V.str y) = decide (x = y) from by simp]; exact .bl _)⟩⟩
theorem cmp_neS {x y : Str} : CmpD X .NotEq (.str x) (.str y) (!decide (x = y)) := ⟨_, op_ne, fun G H u v i rx ry Q k => by
  cases rx
  cases ry
  exact ⟨rfl, Giv.here k i (by rw [show decide (V.str x = V.str y) = decide (x = y) from by simp]; exact .bl _)⟩⟩
theorem cmp_eqSN {x : Str} : CmpD X .Eq (.str x) .non false := ⟨_, op_eq, fun G H u v i rx ry Q k => by
  cases rx
  cases ry
  exact ⟨rfl, Giv.here k i (by rw [show decide (V.str x = V.non) = false from by simp]; exact .bl _)⟩⟩
theorem cmp_isB {x y : Bool} : CmpD X .Is (.bl x) (.bl y) (decide (x = y)) := ⟨_, op_isBl, fun G H u v i rx ry Q k => by
  cases rx
  cases ry
  exact ⟨_, _, rfl, rfl, Giv.here k i (.bl _)⟩⟩
def D.isN : D → Bool
  | .non => true
  | _ => false
theorem Rp.isN {W : Wd} {G : Hp} {v : V} {d : D} (h : Rp W G v d) : decide (v = .non) = d.isN := by
  cases h <;> simp [D.isN]
theorem cmp_isN {d : D} : CmpD X .Is d .non d.isN := ⟨_, op_isN, fun G H u v i rx ry Q k => by
  cases ry
  exact ⟨rfl, Giv.here k i (by rw [rx.isN]; exact .bl _)⟩⟩
theorem cmp_notN {d : D} : CmpD X .IsNot d .non (!d.isN) := ⟨_, op_notN, fun G H u v i rx ry Q k => by
  cases ry
  exact ⟨rfl, Giv.here k i (by rw [rx.isN]; exact .bl _)⟩⟩
theorem inV_strs (x : Str) (ys : List Str) : inV (.str x) (ys.map V.str) = decide (x ∈ ys) := by
  unfold inV
  induction ys with
  | nil => rfl
  | cons y r ih =>
    rw [List.map_cons, List.any_cons, ih]
    show ((y == x) || decide (x ∈ r)) = decide (x ∈ y :: r)
    by_cases h : y = x
    · subst h
      rw [beq_self_eq_true, Bool.true_or, decide_eq_true List.mem_cons_self]
    · rw [beq_eq_false_iff_ne.mpr h, Bool.false_or]
      by_cases h2 : x ∈ r
      · rw [decide_eq_true h2, decide_eq_true (List.mem_cons_of_mem _ h2)]
      · rw [decide_eq_false h2, decide_eq_false fun z => (List.mem_cons.mp z).elim (fun q => h q.symm) h2]
theorem all_flat (ys : List Str) : (ys.map V.str).all flatV = true := by
  induction ys with
  | nil => rfl
  | cons y r ih => rw [List.map_cons, List.all_cons, ih]; rfl
theorem cmp_inL {x : Str} {ys : List Str} : CmpD X .In (.str x) (.lst (ys.map .str)) (decide (x ∈ ys)) := ⟨_, op_in_seq, fun G H u v i rx ry Q k => by
  cases rx
  cases ry with
  | lst q r =>
    have e := r.strs
    subst e
    exact ⟨_, _, rfl, .inl (SqL.of (i _ _ q)), rfl, all_flat _, Giv.here k i (by rw [if_neg (by decide), inV_strs]; exact .bl _)⟩⟩
theorem cmp_inT {x : Str} {ys : List Str} : CmpD X .In (.str x) (.tup (ys.map .str)) (decide (x ∈ ys)) := ⟨_, op_in_seq, fun G H u v i rx ry Q k => by
  cases rx
  cases ry with
  | tup q r =>
    have e := r.strs
    subst e
    exact ⟨_, _, rfl, .inr (i.t q), rfl, all_flat _, Giv.here k i (by rw [if_neg (by decide), inV_strs]; exact .bl _)⟩⟩
theorem cmp_ninT {x : Str} {ys : List Str} : CmpD X .NotIn (.str x) (.tup (ys.map .str)) (!decide (x ∈ ys)) := ⟨_, op_notIn_seq, fun G H u v i rx ry Q k => by
  cases rx
  cases ry with
  | tup q r =>
    have e := r.strs
    subst e
    exact ⟨_, _, rfl, .inr (i.t q), rfl, all_flat _, Giv.here k i (by rw [if_pos rfl, inV_strs]; exact .bl _)⟩⟩
theorem cmp_inC {x : Nat} {z : Str} : CmpD X .In (.str ⟨#[x]⟩) (.str z) (decide (x ∈ z.cps.toList)) := ⟨_, op_in_sign, fun G H u v i rx ry Q k => by
  cases rx
  cases ry
  exact ⟨_, _, rfl, rfl, Giv.here k i (.bl _)⟩⟩
/-- data of any depth -/
theorem cmp_eqD {n m : Nat} {d d' : D} {k : Bool} (hu : X.A.units + 64 < cLine) (h1 : D.ok n d = true) (h2 : D.ok m d' = true) (hn : n ≤ 64) (hm : m ≤ 64) (hk : k = true ↔ d = d') : CmpD X .Eq d d' k := ⟨_, op_eqD hu, fun G H u v i rx ry Q q =>
  ⟨_, _, (rx.up i).dp _ _ _ h1, (ry.up i).dp _ _ _ h2, D.shaped h1 hn, D.shaped h2 hm, Giv.here q i (by
    rw [show PyData.eqv d.py d'.py = k from by rw [Bool.eq_iff_iff, D.eqv n m d d' h1 h2, hk]]
    exact .bl _)⟩⟩
theorem eqv_any {n m : Nat} {d : D} (h1 : D.ok n d = true) : ∀ {ds : List D}, D.oks m ds = true → (((D.pys ds).any fun z => PyData.eqv z d.py) = true ↔ d ∈ ds)
  | [], _ => by simp [D.pys]
  | e :: es, h => by
    rw [D.oks, Bool.and_eq_true] at h
    rw [D.pys, List.any_cons, Bool.or_eq_true, D.eqv m n e d h.1 h1, eqv_any h1 h.2, List.mem_cons, eq_comm]
theorem cmp_inD {n m : Nat} {d : D} {ds : List D} {k : Bool} (hu : X.A.units + 65 < cLine) (h1 : D.ok n d = true) (h2 : D.oks m ds = true) (hn : n ≤ 64) (hm : m < 64) (hk : k = true ↔ d ∈ ds) : CmpD X .In d (.lst ds) k := ⟨_, op_inD hu, fun G H u v i rx ry Q q =>
  ⟨d.py, D.pys ds, (rx.up i).dp _ _ _ h1, (ry.up i).dp (m + 1) _ _ (by simpa [D.ok] using h2), D.shaped h1 hn, D.shaped (n := m + 1) (d := .lst ds) (by simpa [D.ok] using h2) hm, Giv.here q i (by
    rw [show ((D.pys ds).any fun z => PyData.eqv z d.py) = k from by rw [Bool.eq_iff_iff, eqv_any h1 h2, hk]]
    exact .bl _)⟩⟩
theorem cmp_ninD {n m : Nat} {d : D} {ds : List D} {k : Bool} (hu : X.A.units + 65 < cLine) (h1 : D.ok n d = true) (h2 : D.oks m ds = true) (hn : n ≤ 64) (hm : m < 64) (hk : k = true ↔ d ∈ ds) : CmpD X .NotIn d (.lst ds) (!k) := ⟨_, op_notInD hu, fun G H u v i rx ry Q q =>
  ⟨d.py, D.pys ds, (rx.up i).dp _ _ _ h1, (ry.up i).dp (m + 1) _ _ (by simpa [D.ok] using h2), D.shaped h1 hn, D.shaped (n := m + 1) (d := .lst ds) (by simpa [D.ok] using h2) hm, Giv.here q i (by
    rw [show ((D.pys ds).any fun z => PyData.eqv z d.py) = k from by rw [Bool.eq_iff_iff, eqv_any h1 h2, hk]]
    exact .bl _)⟩⟩
/-- a <= b <= c -/
theorem ee_chain {i j k : Int} (ha : EE X ss a (.int i)) (hb : EE X ss b (.int j)) (hc : EE X ss c (.int k)) (hm : lastMarks [.LtE, .LtE] [b, c] = false := by with_unfolding_all rfl) : EE X ss (.Compare a [.LtE, .LtE] [b, c] pos) (.bl (decide (i ≤ j) && decide (j ≤ k))) := fun H0 G H σ i0 s Q q =>
  wE.of (pe_chain op_le op_le pe_w pe_w pe_w hm) (ha H0 G H σ i0 s _ fun x G1 H1 g1 r1 => hb H0 G1 H1 σ g1.i (s.grow g1) _ fun y G2 H2 g2 r2 => by
    cases r1
    cases r2
    refine ⟨_, _, rfl, rfl, _, rfl, ?_⟩
    by_cases h : i ≤ j
    · rw [decide_eq_true h]
      refine iteT (hc H0 G2 H2 σ g2.i (s.grow (g1.trans g2)) _ fun z G3 H3 g3 r3 => ?_)
      cases r3
      refine ⟨_, _, rfl, rfl, q _ G3 H3 (g1.trans (g2.trans g3)) ?_⟩
      rw [decide_eq_true h, Bool.true_and]
      exact .bl _
    · rw [decide_eq_false h]
      refine iteF (q _ G2 H2 (g1.trans g2) ?_)
      rw [decide_eq_false h, Bool.false_and]
      exact .bl _)
/-! ### and, or, not, if -/
theorem ee_one' {op} {d : D} (h : EE X ss a d) : EE X ss (.BoolOp op [a] pos) d := fun H0 G H σ i s Q k => wE.of (pe_one pe_w) (h H0 G H σ i s Q k)
theorem ee_and {x y : Bool} (ha : EE X ss a (.bl x)) (hb : x = true → EE X ss (.BoolOp .And (b :: rest) pos) (.bl y)) : EE X ss (.BoolOp .And (a :: b :: rest) pos) (.bl (x && y)) := fun H0 G H σ i s Q k =>
  wE.of (pe_and pe_w pe_w) (ha H0 G H σ i s _ fun v G1 H1 g1 r1 => by
    cases r1
    refine ⟨x, rfl, ?_⟩
    cases x with
    | true => exact iteT (hb rfl H0 G1 H1 σ g1.i (s.grow g1) _ fun v G2 H2 g2 r2 => k v G2 H2 (g1.trans g2) r2)
    | false => exact iteF (k _ G1 H1 g1 (.bl _)))
theorem ee_or {x y : Bool} (ha : EE X ss a (.bl x)) (hb : x = false → EE X ss (.BoolOp .Or (b :: rest) pos) (.bl y)) : EE X ss (.BoolOp .Or (a :: b :: rest) pos) (.bl (x || y)) := fun H0 G H σ i s Q k =>
  wE.of (pe_or pe_w pe_w) (ha H0 G H σ i s _ fun v G1 H1 g1 r1 => by
    cases r1
    refine ⟨x, rfl, ?_⟩
    cases x with
    | true => exact iteT (k _ G1 H1 g1 (.bl _))
    | false => exact iteF (hb rfl H0 G1 H1 σ g1.i (s.grow g1) _ fun v G2 H2 g2 r2 => k v G2 H2 (g1.trans g2) r2))
theorem ee_not {x : Bool} (ha : EE X ss a (.bl x)) : EE X ss (.UnaryOp .Not a pos) (.bl (!x)) := fun H0 G H σ i s Q k =>
  wE.of (pe_not pe_w) (ha H0 G H σ i s _ fun v G1 H1 g1 r1 => by
    cases r1
    exact ⟨x, rfl, k _ G1 H1 g1 (.bl _)⟩)
theorem ew_and1 {x : Bool} (ha : ET X ss a x) : EW X ss (.BoolOp .And [a] pos) x := fun H0 G H σ i s Q k => wW.of (pw_and1 pt_w) (ha H0 G H σ i s Q k)
theorem ew_or1 {x : Bool} (ha : ET X ss a x) : EW X ss (.BoolOp .Or [a] pos) x := fun H0 G H σ i s Q k => wW.of (pw_or1 pt_w) (ha H0 G H σ i s Q k)
theorem ew_and {x y : Bool} (ha : ET X ss a x) (hb : x = true → EW X ss (.BoolOp .And (b :: rest) pos) y) : EW X ss (.BoolOp .And (a :: b :: rest) pos) (x && y) := fun H0 G H σ i s Q k =>
  wW.of (pw_and pt_w pw_w) (ha H0 G H σ i s _ fun G1 H1 g1 => by
    cases x with
    | true => exact iteT (hb rfl H0 G1 H1 σ g1.i (s.grow g1) _ fun G2 H2 g2 => k G2 H2 (g1.trans g2))
    | false => exact iteF (k G1 H1 g1))
theorem ew_or {x y : Bool} (ha : ET X ss a x) (hb : x = false → EW X ss (.BoolOp .Or (b :: rest) pos) y) : EW X ss (.BoolOp .Or (a :: b :: rest) pos) (x || y) := fun H0 G H σ i s Q k =>
  wW.of (pw_or pt_w pw_w) (ha H0 G H σ i s _ fun G1 H1 g1 => by
    cases x with
    | true => exact iteT (k G1 H1 g1)
    | false => exact iteF (hb rfl H0 G1 H1 σ g1.i (s.grow g1) _ fun G2 H2 g2 => k G2 H2 (g1.trans g2)))
theorem EW.cast {b b' : Bool} (h : EW X ss e b) (q : b = b') : EW X ss e b' := q ▸ h
theorem et_w {x : Bool} (h : EW X ss e x) : ET X ss e x := fun H0 G H σ i s Q k => wT.of pw_w.pt (h H0 G H σ i s Q k)
theorem et_not {x : Bool} (h : ET X ss a x) : ET X ss (.UnaryOp .Not a pos) (!x) := fun H0 G H σ i s Q k => wT.of (pt_not pt_w) (h H0 G H σ i s _ fun G1 H1 g1 => k G1 H1 g1)
theorem et_val {x : Bool} (h : EE X ss e (.bl x)) (he : ∀ whole, isTrue e X.env whole = (do let v ← whole; standAt e.pos; holding [v] (truthy v)) := by intro _; rfl) : ET X ss e x := fun H0 G H σ i s Q k =>
  wT.of (pt_val pe_w he) (h H0 G H σ i s _ fun v G1 H1 g1 r1 => by
    cases r1
    exact ⟨x, rfl, k G1 H1 g1⟩)
theorem et_lst {ds : List D} (h : EE X ss e (.lst ds)) (he : ∀ whole, isTrue e X.env whole = (do let v ← whole; standAt e.pos; holding [v] (truthy v)) := by intro _; rfl) : ET X ss e (!ds.isEmpty) := fun H0 G H σ i s Q k =>
  wT.of (pt_truth pe_w he) (h H0 G H σ i s _ fun v G1 H1 g1 r1 => by
    cases r1 with
    | lst q r =>
      rename_i xs
      refine ⟨_, .inl ⟨xs, SqL.of (g1.i _ _ q), rfl⟩, ?_⟩
      have e : (!(List.isEmpty ds)) = !(List.isEmpty xs) := by
        cases r <;> rfl
      rw [← e]
      exact k G1 H1 g1)
theorem ee_if {x : Bool} {d : D} (h : ET X ss c x) (h1 : x = true → EE X ss a d) (h2 : x = false → EE X ss b d) : EE X ss (.IfExp c a b pos) d := fun H0 G H σ i s Q k =>
  wE.of (pe_ifExp pt_w pe_w pe_w) (h H0 G H σ i s _ fun G1 H1 g1 => by
    cases x with
    | true => exact iteT (h1 rfl H0 G1 H1 σ g1.i (s.grow g1) _ fun v G2 H2 g2 r2 => k v G2 H2 (g1.trans g2) r2)
    | false => exact iteF (h2 rfl H0 G1 H1 σ g1.i (s.grow g1) _ fun v G2 H2 g2 r2 => k v G2 H2 (g1.trans g2) r2))
/-! ### + of lists and tuples, slices, join -/
theorem eo_cat {ds es : List D} (ha : EE X ss a (.lst ds)) (hb : EE X ss b (.lst es)) (hl : ds.length + es.length ≤ 100000) : EO X ss (.BinOp a .Add b pos) (ds ++ es) :=
  eo_two (pe_op op_cat pe_w pe_w) ha hb fun G H x y i rx ry Q k => by
    cases rx with
    | lst q r =>
      cases ry with
      | lst q' r' => exact ⟨_, _, _, _, rfl, rfl, i _ _ q, i _ _ q', by rw [r.length, r'.length]; exact Nat.le_trans hl (by decide), fun p hp => GivO.new k i hp (r.append r')⟩
theorem ee_catT {ds es : List D} (ha : EE X ss a (.tup ds)) (hb : EE X ss b (.tup es)) (hl : ds.length + es.length ≤ 100000 := by first | decide | omega) : EE X ss (.BinOp a .Add b pos) (.tup (ds ++ es)) :=
  ee_two (pe_op op_catA pe_w pe_w) ha hb fun G H x y i rx ry Q k => by
    cases rx with
    | tup q r =>
      cases ry with
      | tup q' r' =>
        refine ⟨_, _, _, _, rfl, rfl, i.t q, i.t q', by rw [r.length, r'.length]; exact Nat.le_trans hl (by decide), fun h => ?_, fun h h' => ?_, fun h h' p hp => Giv.tup k i hp (r.append r')⟩
        · subst h
          cases r
          exact Giv.here k i (.tup q' r')
        · subst h'
          cases r'
          exact Giv.here k i (.tup q (by rw [List.append_nil]; exact r))
end
end Fw
namespace Fw
open PySem PySem.Spec PyProof.Rows L2
theorem cut_take (xs : List V) (n : Nat) : cutV xs none (some (n : Int)) = xs.take n := by
  unfold cutV
  rw [HT.sIx_none, HT.sIx_nat, List.drop_zero, Nat.sub_zero]
  exact List.take_eq_take_iff.mpr (by omega)
section
variable {X : Cx} {ss : List Slot} {e a b c f : Expr} {es rest : List Expr} {pos p2 p : Pos}
/-! ### slices, reversed, join -/
theorem eo_take {ds : List D} {n : Nat} (ha : EE X ss a (.lst ds)) (hb : EE X ss b (.int n)) : EO X ss (.Subscript a (.Slice none (some b) none p2) pos) (ds.take n) := fun H0 G H σ i s Q k =>
  wE.of (pe_slice sl_list pe_w po_none (po_some pe_w)) (ha H0 G H σ i s _ fun v G1 H1 g1 r1 => hb H0 G1 H1 σ g1.i (s.grow g1) _ fun w G2 H2 g2 r2 => by
    cases r2
    refine ⟨_, rfl, ?_⟩
    have r1 := r1.up g2.g
    cases r1 with
    | lst q r =>
      refine ⟨_, _, rfl, SqL.of (g2.i _ _ q), fun p hp => ?_⟩
      have q2 := GivO.new (W := wd X) (G := G2) (H := H2) (ds := ds.take n) (Q := Q) (fun p vs G' H' hn g hg hp r => k p vs G' H' ((g1.trans g2).h.back hn) ((g1.trans g2).trans g) hg hp r) g2.i hp (r.take n)
      rw [cut_take]
      exact q2)
theorem eo_takeQ {ds : List D} {n : Nat} (ha : EE X ss a (.sq ds)) (hb : EE X ss b (.int n)) : EO X ss (.Subscript a (.Slice none (some b) none p2) pos) (ds.take n) := fun H0 G H σ i s Q k =>
  wE.of (pe_slice sl_list pe_w po_none (po_some pe_w)) (ha H0 G H σ i s _ fun v G1 H1 g1 r1 => hb H0 G1 H1 σ g1.i (s.grow g1) _ fun w G2 H2 g2 r2 => by
    cases r2
    refine ⟨_, rfl, ?_⟩
    have r1 := r1.up g2.g
    cases r1 with
    | sq q r =>
      refine ⟨_, _, rfl, g2.i.l q, fun p hp => ?_⟩
      have q2 := GivO.new (W := wd X) (G := G2) (H := H2) (ds := ds.take n) (Q := Q) (fun p vs G' H' hn g hg hp r => k p vs G' H' ((g1.trans g2).h.back hn) ((g1.trans g2).trans g) hg hp r) g2.i hp (r.take n)
      rw [cut_take]
      exact q2)
theorem eo_rev {ds : List D} {k : Nat} {p1 p3 : Pos} (ha : EE X ss a (.lst ds)) : EO X ss (.Subscript a (.Slice none none (some (.UnaryOp .USub (.Constant (.int 1) k p1) p2)) p3) pos) ds.reverse := fun H0 G H σ i s Q q =>
  wE.of (pe_revL pe_w) (ha H0 G H σ i s _ fun v G1 H1 g1 r1 => by
    cases r1 with
    | lst z r => exact ⟨_, _, rfl, SqL.of (g1.i _ _ z), fun p hp => GivO.new (W := wd X) (fun p vs G' H' hn g hg hp r => q p vs G' H' (g1.h.back hn) (g1.trans g) hg hp r) g1.i hp r.reverse⟩)
theorem ee_join {z : Str} {ys : List Str} {apos : Pos} (ha : EE X ss a (.str z)) (hb : EE X ss b (.lst (ys.map .str))) (hz : (ys.map (·.length)).sum + ys.length * z.length ≤ 16777216) (hs : starEach [b] X.env = [(false, eval b X.env)] := by first | kernel_rfl! | rfl)
    (hbase : attributeBase a "join" X.env (eval a X.env) = eval a X.env := by first | kernel_rfl! | rfl) (hline : (apos.endLine == pos.line) = true := by first | kernel_rfl! | rfl) : EE X ss (.Call (.Attribute a "join" apos) [b] [] pos) (.str (Txt.join z ys)) := fun H0 G H σ i s Q k =>
  wE.of (pe_join pe_w pe_w hs hbase hline) (ha H0 G H σ i s _ fun v G1 H1 g1 r1 => by
    cases r1
    refine ⟨⟨_, rfl⟩, hb H0 G1 H1 σ g1.i (s.grow g1) _ fun w G2 H2 g2 r2 => ?_⟩
    cases r2 with
    | lst q r =>
      have e := r.strs
      subst e
      exact ⟨_, _, ys, rfl, rfl, .inl (SqL.of (g2.i _ _ q)), hz, k _ G2 H2 (g1.trans g2) (.str _)⟩)
/-! ### fields of a known object, dicts -/
def fldD (f : Str) : List Str → List D → Option D
  | n :: ns, d :: ds => if n = f then some d else fldD f ns ds
  | _, _ => none
theorem RpA.fld {W : Wd} {G : Hp} {f : Str} : ∀ {fs : List (Str × V)} {ns : List Str} {ds : List D} {d : D}, fs.map (·.1) = ns → RpA W G (fs.map (·.2)) ds → fldD f ns ds = some d → ∃ v, fs.lookup f = some v ∧ Rp W G v d
  | [], _, _, _, e, _, h => by subst e; simp [fldD] at h
  | (n, v) :: r, _, _, d, e, hr, h => by
    subst e
    cases hr with
    | cons a t =>
      rw [List.map_cons, fldD] at h
      by_cases hn : n = f
      · rw [if_pos hn] at h
        cases h
        subst hn
        exact ⟨v, by simp [List.lookup], a⟩
      · rw [if_neg hn] at h
        obtain ⟨u, h1, h2⟩ := RpA.fld rfl t h
        refine ⟨u, ?_, h2⟩
        have : (f == n) = false := beq_eq_false_iff_ne.mpr fun z => hn z.symm
        simp [List.lookup, this, h1]
theorem ee_fld {C : Addr} {ns : List Str} {ds : List D} {f : Str} {d : D} (ha : EE X ss a (.ins C ns ds)) (c : Cls X.K C) (n : NoAttr X.K C f) (hf : fldD f ns ds = some d) (hb : attributeBase a f X.env (eval a X.env) = eval a X.env := by first | kernel_rfl! | rfl) : EE X ss (.Attribute a f pos) d := fun H0 G H σ i s Q k =>
  wE.of (pe_fld pe_w hb) (ha H0 G H σ i s _ fun v G1 H1 g1 r1 => by
    cases r1 with
    | ins q e r =>
      obtain ⟨v, h1, h2⟩ := RpA.fld e r hf
      exact ⟨_, _, _, _, v, rfl, g1.i _ _ q, c, n, h1, k v G1 H1 g1 h2⟩)
def dkD (k : Key) : List Key → List D → Option D
  | n :: ns, d :: ds => if n = k then some d else dkD k ns ds
  | _, _ => none
theorem RpA.dkv {W : Wd} {G : Hp} {f : Key} : ∀ {fs : List (Key × V)} {ns : List Key} {ds : List D}, fs.map (·.1) = ns → RpA W G (fs.map (·.2)) ds → (∀ d, dkD f ns ds = some d → ∃ v, valV fs f = some v ∧ Rp W G v d) ∧ (dkD f ns ds = none → valV fs f = none)
  | [], _, _, e, _ => by subst e; exact ⟨fun d h => by simp [dkD] at h, fun _ => rfl⟩
  | (n, v) :: r, _, _, e, hr => by
    subst e
    cases hr with
    | cons a t =>
      rw [List.map_cons, dkD]
      by_cases hn : n = f
      · rw [if_pos hn, valV_pos hn]
        exact ⟨fun d h => by cases h; exact ⟨v, rfl, a⟩, fun h => by cases h⟩
      · rw [if_neg hn]
        have e2 : valV ((n, v) :: r) f = valV r f := by simp [valV, List.find?_cons, hn]
        rw [e2]
        exact RpA.dkv rfl t
def kD : Key → D
  | .inl i => .int i
  | .inr x => .str x
theorem Rp.key {W : Wd} {G : Hp} {v : V} {k : Key} (h : Rp W G v (kD k)) : v = kV k := by
  cases k with
  | inl i => cases h; rfl
  | inr x => cases h; rfl
theorem ee_dget {ks : List Key} {ds : List D} {k : Key} {d : D} (hu : X.A.units + 1 < cLine) (ha : EE X ss a (.dk ks ds)) (hb : EE X ss b (kD k)) (hf : dkD k ks ds = some d) (hs : NoSl b := by intro _ _; rfl) : EE X ss (.Subscript a b pos) d :=
  ee_two (pe_ix_any hu hs) ha hb fun G H x y i rx ry Q q => by
    cases rx with
    | dk z e r =>
      obtain ⟨v, h1, h2⟩ := (RpA.dkv (f := k) e r).1 d hf
      have e2 := ry.key
      subst e2
      exact ⟨_, v, rfl, by rw [← h1]; exact DGet.k (i _ _ z), Giv.here q i h2⟩
where pe_ix_any (hu : X.A.units + 1 < cLine) (hs : NoSl b) : PE X (.Subscript a b pos) (tOp (fun x y H Q => ∃ a v, x = .ref a ∧ DGet H a y (some v) ∧ Q v H) (wE X a) (wE X b)) := pe_dget hu pe_w pe_w hs
theorem ee_dget2 {ks : List Key} {ds : List D} {k : Key} {d d' : D} {apos : Pos} (hu : X.A.units + 1 < cLine) (ha : EE X ss a (.dk ks ds)) (hb : EE X ss b (kD k)) (hc : EE X ss c d') (hf : (dkD k ks ds).getD d' = d)
    (m : M2 X a "get" apos b c pos := by exact ⟨rfl, rfl, rfl, rfl⟩) : EE X ss (.Call (.Attribute a "get" apos) [b, c] [] pos) d := fun H0 G H σ i s Q q =>
  wE.of (pe_dget2 hu pe_w pe_w pe_w m) (ha H0 G H σ i s _ fun x G1 H1 g1 r1 => by
    cases r1 with
    | dk z e r =>
      refine ⟨_, rfl, .inl ⟨_, .inl (g1.i _ _ z)⟩, hb H0 G1 H1 σ g1.i (s.grow g1) _ fun y G2 H2 g2 r2 => hc H0 G2 H2 σ g2.i (s.grow (g1.trans g2)) _ fun w G3 H3 g3 r3 => ?_⟩
      have e2 := r2.key
      subst e2
      refine ⟨_, DGet.k (k := k) (g3.i _ _ (g3.g _ _ (g2.g _ _ z))), ?_⟩
      have hd := RpA.dkv (f := k) e r
      cases h : dkD k ks ds with
      | none =>
        rw [hd.2 h]
        rw [h] at hf
        subst hf
        exact q w G3 H3 (g1.trans (g2.trans g3)) r3
      | some d0 =>
        obtain ⟨v, h1, h2⟩ := hd.1 d0 h
        rw [h1]
        rw [h] at hf
        subst hf
        exact q v G3 H3 (g1.trans (g2.trans g3)) (h2.up (g2.g.trans g3.g)))
/-! ### calls -/
/-- what a def promises: data in, data out; a new list out -/
def spP (W : Wd) (T : List D → D → Prop) : Sp := fun vs H Q _ => ∃ G ds d, Ex G H ∧ RpA W G vs ds ∧ T ds d ∧ Giv W G H d Q
def spO (W : Wd) (T : List D → List D → Prop) : Sp := fun vs H Q _ => ∃ G ds es, Ex G H ∧ RpA W G vs ds ∧ T ds es ∧ GivO W G H es Q
variable {x : Str} {k j : Nat} {T : List D → D → Prop} {U : List D → List D → Prop}
theorem ee_call {ds : List D} {d : D} (c : C8.Cal X.prog X.w X.K X.mg X.base k x (spP (wd X) T) []) (hr : Room j X.A) (hk : k ≤ j) (ha : EA X ss (e :: es) ds) (hT : T ds d) (hg : Gl X x := by first | kernel_rfl! | rfl) (hdb : (x == ("__debug__" : Str)) = false := by decide)
    (he : starEach (e :: es) X.env = (false, eval e X.env) :: starEach es X.env := by first | kernel_rfl! | rfl) (hpl : (backTo pos (starEach es X.env)).any (·.1) = false := by first | kernel_rfl! | rfl) : EE X ss (.Call (.Name x p) (e :: es) [] pos) d := fun H0 G H σ i s Q q =>
  wE.of (C8.pe_c c hr hk hg pa_w hdb he hpl) (ha H0 G H σ i s _ fun vs G1 H1 g1 r1 => ⟨G1, ds, d, g1.i, by rw [List.append_nil]; exact r1, hT, fun v G' H' g r => q v G' H' (g1.trans g) r⟩)
theorem eo_call {ds es' : List D} (c : C8.Cal X.prog X.w X.K X.mg X.base k x (spO (wd X) U) []) (hr : Room j X.A) (hk : k ≤ j) (ha : EA X ss (e :: es) ds) (hT : U ds es') (hg : Gl X x := by first | kernel_rfl! | rfl) (hdb : (x == ("__debug__" : Str)) = false := by decide)
    (he : starEach (e :: es) X.env = (false, eval e X.env) :: starEach es X.env := by first | kernel_rfl! | rfl) (hpl : (backTo pos (starEach es X.env)).any (·.1) = false := by first | kernel_rfl! | rfl) : EO X ss (.Call (.Name x p) (e :: es) [] pos) es' := fun H0 G H σ i s Q q =>
  wE.of (C8.pe_c c hr hk hg pa_w hdb he hpl) (ha H0 G H σ i s _ fun vs G1 H1 g1 r1 => ⟨G1, ds, es', g1.i, by rw [List.append_nil]; exact r1, hT, fun p vs G' H' hn g hg hp r => q p vs G' H' (g1.h.back hn) (g1.trans g) hg hp r⟩)
/-- a property -/
structure Prp (P : Program) (w : World) (K : PySem.W.Frag) (mg : Str → Option Value) (base : Heap) (k : Nat) (C : Addr) (f : Str) (sp : Sp) : Prop where
  ex : ∃ (p g : Addr) (fd : FuncData) (ps : List Str), Cls K C ∧ PropOf K C f p g ∧ FnOk P w K mg base C8.CX0 k g fd ps sp ∧ Binds K fd ps []
theorem ee_prop {C : Addr} {ns : List Str} {ds : List D} {d : D} (c : Prp X.prog X.w X.K X.mg X.base k C x (spP (wd X) T)) (hr : Room j X.A) (hk : k + 1 ≤ j) (ha : EE X ss a (.ins C ns ds)) (hT : T [.ins C ns ds] d)
    (hab : attributeBase a x X.env (eval a X.env) = eval a X.env := by first | kernel_rfl! | rfl) : EE X ss (.Attribute a x pos) d := fun H0 G H σ i s Q q => by
  obtain ⟨p', g, fd, ps, c1, c2, c3, c4⟩ := c.ex
  exact wE.of (pe_prop pe_w c1 c2 c3 (hr.mono hk) c4 .nil (E := C8.E0) (fun _ _ _ _ _ _ _ h => h.elim) hab) (ha H0 G H σ i s _ fun v G1 H1 g1 r1 => by
    cases r1 with
    | ins z e r => exact ⟨_, _, _, rfl, g1.i _ _ z, G1, _, d, g1.i, .cons (.ins z e r) .nil, hT, fun v G' H' g r => q v G' H' (g1.trans g) r⟩)
theorem eo_prop {C : Addr} {ns : List Str} {ds es' : List D} (c : Prp X.prog X.w X.K X.mg X.base k C x (spO (wd X) U)) (hr : Room j X.A) (hk : k + 1 ≤ j) (ha : EE X ss a (.ins C ns ds)) (hT : U [.ins C ns ds] es')
    (hab : attributeBase a x X.env (eval a X.env) = eval a X.env := by first | kernel_rfl! | rfl) : EO X ss (.Attribute a x pos) es' := fun H0 G H σ i s Q q => by
  obtain ⟨p', g, fd, ps, c1, c2, c3, c4⟩ := c.ex
  exact wE.of (pe_prop pe_w c1 c2 c3 (hr.mono hk) c4 .nil (E := C8.E0) (fun _ _ _ _ _ _ _ h => h.elim) hab) (ha H0 G H σ i s _ fun v G1 H1 g1 r1 => by
    cases r1 with
    | ins z e r => exact ⟨_, _, _, rfl, g1.i _ _ z, G1, _, es', g1.i, .cons (.ins z e r) .nil, hT, fun p vs G' H' hn g hg hp r => q p vs G' H' (g1.h.back hn) (g1.trans g) hg hp r⟩)
end
end Fw
namespace Fw
open PySem PySem.Spec PyProof.Rows L2
/-! ### targets -/
def putS (ss : List Slot) (ws : List (Nat × D)) : List Slot := ws.foldl (fun s w => s.set w.1 (.im w.2)) ss
theorem putS_len (ss : List Slot) (ws : List (Nat × D)) : (putS ss ws).length = ss.length := by
  unfold putS
  induction ws generalizing ss with
  | nil => rfl
  | cons w r ih => rw [List.foldl_cons, ih, List.length_set]
theorem putS_app (ss : List Slot) (ws vs : List (Nat × D)) : putS ss (ws ++ vs) = putS (putS ss ws) vs := by
  unfold putS
  rw [List.foldl_append]
def GD (X : Cx) (ss : List Slot) (tg : Expr) (d : D) (ws : List (Nat × D)) : Prop := ∀ H0 G H σ v, Ex G H → Sls (wd X) H0 G H σ ss → Rp (wd X) G v d → ∀ Q : L2.St → Hp → Prop,
  (∀ σ' : L2.St, Sls (wd X) H0 G H σ' (putS ss ws) → (∀ i, i ∉ ws.map (·.1) → σ'[i]? = σ[i]?) → Q σ' H) → wG X tg v σ H Q
def GDs (X : Cx) (ss : List Slot) (ts : List Expr) (ds : List D) (ws : List (Nat × D)) : Prop := ∀ H0 G H σ vs, Ex G H → Sls (wd X) H0 G H σ ss → RpA (wd X) G vs ds → ∀ Q : L2.St → Hp → Prop,
  (∀ σ' : L2.St, Sls (wd X) H0 G H σ' (putS ss ws) → (∀ i, i ∉ ws.map (·.1) → σ'[i]? = σ[i]?) → Q σ' H) → wGs X ts vs σ H Q
section
variable {X : Cx} {ss : List Slot} {e a b c f : Expr} {es rest : List Expr} {pos p2 p : Pos}
theorem lt_some {α : Type} {l : List α} {i : Nat} (h : (l[i]?).isSome = true) : i < l.length := by
  cases e : l[i]? with
  | none => rw [e] at h; cases h
  | some x => exact (List.getElem?_eq_some_iff.mp e).1
theorem gd_name (i : Nat) {d : D} {x : Str} (hN : X.N.Nodup) (hi : (ss[i]?).isSome = true := by first | kernel_rfl! | rfl) (hx : X.N[i]? = some x := by first | kernel_rfl! | rfl) (hl : Loc X.env.scope x := by first | exact Or.inl (by kernel_rfl!) | exact Or.inr (by kernel_rfl!) | exact Or.inl rfl | exact Or.inr rfl) (hf : X.fn x = true ∨ X.env.scope.names.lookup x = some .local := by first | exact .inl (by kernel_rfl!) | exact .inr (by kernel_rfl!) | exact .inl rfl | exact .inr rfl) : GD X ss (.Name x pos) d [(i, d)] :=
  fun H0 G H σ v e s r Q k => wG.of (pg_name hN hx hl hf) (k _ (s.im (lt_some hi) r) fun j hj => List.getElem?_set_ne fun z => hj (by simp [z]))
theorem gds_nil : GDs X ss [] [] [] := fun H0 G H σ v e s r Q k => wGs.of pgs_nil (by
  cases r
  exact ⟨rfl, k σ s fun _ _ => rfl⟩)
theorem gds_cons {d : D} {ds : List D} {ws vs zs : List (Nat × D)} (h1 : GD X ss a d ws) (h2 : GDs X (putS ss ws) es ds vs) (hz : ws ++ vs = zs := by rfl) (hs : (assignEach (a :: es) X.env).map (·.2) = assign a X.env :: (assignEach es X.env).map (·.2) := by first | kernel_rfl! | rfl) : GDs X ss (a :: es) (d :: ds) zs := hz ▸ 
  fun H0 G H σ v e s r Q k => wGs.of (pgs_cons pg_w pgs_w hs) (by
    cases r with
    | cons r t => exact ⟨_, _, rfl, h1 H0 G H σ _ e s r _ fun σ1 s1 n1 => h2 H0 G H σ1 _ e s1 t Q fun σ2 s2 n2 => k σ2 (by rw [putS_app]; exact s2) fun i hi => by
        rw [List.map_append, List.mem_append] at hi
        exact (n2 i fun z => hi (.inr z)).trans (n1 i fun z => hi (.inl z))⟩)
theorem gd_tup {ds : List D} {ws : List (Nat × D)} {k} (h : GDs X ss es ds ws) (hc : X.calm = true := by first | kernel_rfl! | rfl) (hn : (assignEach es X.env).length = ds.length := by first | kernel_rfl! | rfl) (hst : (assignEach es X.env).findIdx? (·.1) = none := by first | kernel_rfl! | rfl) : GD X ss (.Tuple es k pos) (.tup ds) ws :=
  fun H0 G H σ v e s r Q q => wG.of (pg_tup hc pgs_w hn hst) (by
    cases r with
    | tup z r => exact ⟨_, _, rfl, e.t z, r.length, h H0 G H σ _ e s r Q q⟩)
end
/-! ### what is walked -/
structure Wk (W : Wd) (J : It) (G : Hp) (ds : List D) : Prop where
  go : ∀ i H, Ex G H → i < ds.length → J.go i H
  yld : ∀ i x H H', Ex G H → i < ds.length → J.yld i H x H' → H' = H ∧ ∃ d, ds[i]? = some d ∧ Rp W G x d
  stop : ∀ H, Ex G H → J.stop ds.length H
def EI (X : Cx) (ss : List Slot) (tg it : Expr) (ds : List D) : Prop := ∀ H0 G H σ, Ex G H → Sls (wd X) H0 G H σ ss → ∀ R : It → Hp → Prop, (∀ J G' H', Grow G H G' H' → Wk (wd X) J G' ds → R J H') → wI X tg it σ H R
section
variable {X : Cx} {ss : List Slot} {e a b c f tg : Expr} {es rest : List Expr} {pos p2 p : Pos}
theorem ei_lst {ds : List D} (h : EE X ss a (.lst ds)) : EI X ss tg a ds := fun H0 G H σ i s R k => wI.of (pi_list pe_w) (h H0 G H σ i s _ fun v G1 H1 g1 r1 => by
  cases r1 with
  | lst q r => exact ⟨_, rfl, ⟨_, SqL.of (g1.i _ _ q)⟩, k _ G1 H1 g1 ⟨fun i H e hi => by
      obtain ⟨v, hv, _⟩ := r.get (List.getElem?_eq_getElem hi)
      exact ⟨_, v, SqL.of (e _ _ q), hv⟩, fun i x H H' e hi y => by
      obtain ⟨rfl, y⟩ := y
      obtain ⟨d, hd, rd⟩ := r.getV (y _ (SqL.of (e _ _ q)))
      exact ⟨rfl, d, hd, rd⟩, fun H e => ⟨_, SqL.of (e _ _ q), by rw [r.length]; exact Nat.le_refl _⟩⟩⟩)
theorem ei_tup {ds : List D} (h : EE X ss a (.tup ds)) : EI X ss tg a ds := fun H0 G H σ i s R k => wI.of (pi_tup pe_w) (h H0 G H σ i s _ fun v G1 H1 g1 r1 => by
  cases r1 with
  | tup q r => exact ⟨_, rfl, ⟨_, g1.i.t q⟩, k _ G1 H1 g1 ⟨fun i H e hi => by
      obtain ⟨v, hv, _⟩ := r.get (List.getElem?_eq_getElem hi)
      exact ⟨_, v, e.t q, hv⟩, fun i x H H' e hi y => by
      obtain ⟨rfl, y⟩ := y
      obtain ⟨d, hd, rd⟩ := r.getV (y _ (e.t q))
      exact ⟨rfl, d, hd, rd⟩, fun H e => ⟨_, e.t q, by rw [r.length]; exact Nat.le_refl _⟩⟩⟩)
theorem ei_rngI {n : Int} (hm : X.mg "range" = none) (h : EE X ss a (.int n)) (h0 : -100000 ≤ n) (hn : n ≤ 100000) (hg : Gl X "range" := by first | kernel_rfl! | rfl) (hs : starEach [a] X.env = [(false, eval a X.env)] := by first | kernel_rfl! | rfl) : EI X ss tg (.Call (.Name "range" p) [a] [] pos) ((List.range n.toNat).map fun i => .int (i : Nat)) :=
  fun H0 G H σ i s R k => wI.of (pi_range1 hg hm pa_w hs) (ea_cons h ea_nil hs H0 G H σ i s _ fun v G1 H1 g1 r1 => by
    cases r1 with
    | cons r t =>
      cases t
      cases r
      refine ⟨_, rfl, by omega, by omega, k _ G1 H1 g1 ⟨fun i H e hi => ?_, fun i x H H' e hi y => ?_, fun H e => ?_⟩⟩
      · have hi : i < n.toNat := by simpa using hi
        exact hi
      · obtain ⟨rfl, rfl⟩ := y
        have hi : i < n.toNat := by simpa using hi
        refine ⟨rfl, .int i, by simp [hi], ?_⟩
        rw [Int.zero_add]
        exact .int _
      · show n.toNat ≤ _
        simp)
theorem ei_rng {n : Nat} (hm : X.mg "range" = none) (h : EE X ss a (.int n)) (hn : n ≤ 100000) (hg : Gl X "range" := by first | kernel_rfl! | rfl) (hs : starEach [a] X.env = [(false, eval a X.env)] := by first | kernel_rfl! | rfl) : EI X ss tg (.Call (.Name "range" p) [a] [] pos) ((List.range n).map fun i => .int (i : Nat)) :=
  ei_rngI hm h (by omega) (by omega) hg hs
theorem ei_str {z : Str} (h : EE X ss a (.str z)) : EI X ss tg a (z.cps.toList.map fun c => .str ⟨#[c]⟩) := fun H0 G H σ i s R k => wI.of (pi_str pe_w) (h H0 G H σ i s _ fun v G1 H1 g1 r1 => by
  cases r1
  refine ⟨_, rfl, k _ G1 H1 g1 ⟨fun i H e hi => ?_, fun i x H H' e hi y => ?_, fun H e => ?_⟩⟩
  · show i < z.cps.size
    simpa using hi
  · obtain ⟨rfl, c, hc, rfl⟩ := y
    refine ⟨rfl, _, ?_, .str _⟩
    rw [List.getElem?_map, Array.getElem?_toList, hc]
    rfl
  · show z.cps.size ≤ _
    simp)
end
/-! ### blocks of comprehensions -/
abbrev Bk (X : Cx) (scope : Scope) (P : Cx → Prop) : Prop := ∀ (s : Shared) (H : Hp) (C : Addr) (cl : List (Str × Addr)) (fp : List Addr), P (X.blk s H scope (compEnvC scope cl C X.env) fp)
def wTs (X : Cx) (ifs : List Expr) : TT := fun σ H Q => ∀ pins s, Inv X pins σ H s → wpAny (model X.prog X.w) X.A (forIn ifs true fun c r => if r = true then do let ok ← isTrue c X.env (eval c X.env); pure (ForInStep.yield ok) else pure (ForInStep.yield r)) (TP X pins σ Q) X.xe s
theorem pts_w {X : Cx} {ifs : List Expr} : PTs X ifs (wTs X ifs) := ⟨fun pins s _ _ _ I h => h pins s I⟩
theorem wTs.of {X : Cx} {ifs : List Expr} {t : TT} {σ : L2.St} {H : Hp} {Q : Bool → Hp → Prop} (p : PTs X ifs t) (h : t σ H Q) : wTs X ifs σ H Q := fun pins s I => p.run pins s σ H Q I h
def ETs (X : Cx) (ss : List Slot) (ifs : List Expr) (b : Bool) : Prop := ∀ H0 G H σ, Ex G H → Sls (wd X) H0 G H σ ss → ∀ Q : Bool → Hp → Prop, (∀ G' H', Grow G H G' H' → Q b H') → wTs X ifs σ H Q
theorem ets_nil {X : Cx} {ss : List Slot} : ETs X ss [] true := fun H0 G H σ i s Q k => wTs.of pts_nil (k G H (.refl i))
theorem ets_one {X : Cx} {ss : List Slot} {e : Expr} {b : Bool} (h : ET X ss e b) : ETs X ss [e] b := fun H0 G H σ i s Q k => wTs.of (pts_one pt_w) (h H0 G H σ i s Q k)
section
variable {X : Cx} {scope : Scope}
def uE (X : Cx) (scope : Scope) (e : Expr) : TE := fun σ H1 Q => Bk X scope fun Y => wE Y e σ H1 Q
def uTs (X : Cx) (scope : Scope) (e : List Expr) : TT := fun σ H1 Q => Bk X scope fun Y => wTs Y e σ H1 Q
def uG (X : Cx) (scope : Scope) (e : Expr) : TG := fun v σ H1 Q => Bk X scope fun Y => wG Y e v σ H1 Q
def uI (X : Cx) (scope : Scope) (tg e : Expr) : TI := fun σ H1 Q => Bk X scope fun Y => wI Y tg e σ H1 Q
theorem pe_u {e : Expr} : Bk X scope fun Y => PE Y e (uE X scope e) := fun s H C cl fp => ⟨fun pins s' _ _ _ I h => h s H C cl fp pins s' I⟩
theorem pts_u {e : List Expr} : Bk X scope fun Y => PTs Y e (uTs X scope e) := fun s H C cl fp => ⟨fun pins s' _ _ _ I h => h s H C cl fp pins s' I⟩
theorem pg_u {e : Expr} : Bk X scope fun Y => PG Y e (uG X scope e) := fun s H C cl fp => ⟨fun pins s' _ _ _ u _ I r h => h s H C cl fp pins s' u I r⟩
theorem pi_u {tg e : Expr} : Bk X scope fun Y => PI Y tg e (uI X scope tg e) := fun s H C cl fp => ⟨fun pins s' _ _ _ I h => h s H C cl fp pins s' I⟩
end
def wipeS (ss : List Slot) : List Nat → List Slot
  | [] => ss
  | v :: vs => (wipeS ss vs).set v .no
theorem wipeS_len (ss : List Slot) : ∀ vs : List Nat, (wipeS ss vs).length = ss.length
  | [] => rfl
  | v :: vs => by unfold wipeS; rw [List.length_set, wipeS_len ss vs]
section
variable {W : Wd} {H0 G H G' H' : Hp} {σ : L2.St} {ss : List Slot} {v : V}
theorem Sls.wipe (x : Sls W H0 G H σ ss) : ∀ vs : List Nat, Sls W H0 G H (wipe σ vs) (wipeS ss vs)
  | [] => x
  | v :: vs => (Sls.wipe x vs).drop
theorem wipe_get (σ : L2.St) (i : Nat) : ∀ vs : List Nat, i ∈ vs → (wipe σ vs)[i]? = if i < σ.length then some none else none
  | v :: vs, h => by
    unfold wipe
    by_cases e : v = i
    · subst e
      by_cases hl : v < σ.length
      · rw [List.getElem?_set_self (by rw [wipe_length]; exact hl), if_pos hl]
      · rw [List.getElem?_eq_none (by rw [List.length_set, wipe_length]; omega), if_neg hl]
    · rw [List.getElem?_set_ne e]
      exact wipe_get σ i vs ((List.mem_cons.mp h).resolve_left fun z => e z.symm)
theorem wipe_same {σ' : L2.St} (vs : List Nat) (hl : σ'.length = σ.length) (h : ∀ i, i ∉ vs → σ'[i]? = σ[i]?) : wipe σ' vs = wipe σ vs := by
  refine List.ext_getElem? fun i => ?_
  by_cases hi : i ∈ vs
  · rw [wipe_get σ' i vs hi, wipe_get σ i vs hi, hl]
  · rw [wipe_out hi, wipe_out hi, h i hi]
theorem Grow.mut {G H G' H' : Hp} {p : Addr} {o : HO} (k : Grow G H G' H') (h0 : H p = none) (hg : G' p = none) : Grow G H G' (upd H' p o) := ⟨k.g, k.h.mut h0, k.i.mut hg, k.n⟩
theorem Grow.off {p : Addr} {o : HO} (k : Grow G H G' H') (h : H p = some o) (hg : G p = none) : G' p = none := by
  cases q : G' p with
  | none => rfl
  | some u =>
    rcases k.n p u q with z | z
    · rw [hg] at z; cases z
    · rw [h] at z; cases z
end
section
variable {W : Wd} {H0 G H G' H' : Hp} {σ : L2.St} {ss : List Slot} {v : V}
theorem FldAt.keepBut {L : Addr} {o : HO} {f : Fld} (h : FldAt W G H v f) (hn : L ∉ f.fp) : FldAt W G (upd H L o) v f := by
  cases f with
  | im d => exact h
  | ow p ds =>
    obtain ⟨e, vs, a, b⟩ := h
    exact ⟨e, vs, by rw [upd_ne fun z => hn (by rw [← z]; exact List.mem_singleton.mpr rfl)]; exact a, b⟩
theorem FldsAt.keepBut {L : Addr} {o : HO} : ∀ {vs : List V} {fs : List Fld}, FldsAt W G H vs fs → L ∉ fs.flatMap (·.fp) → FldsAt W G (upd H L o) vs fs
  | _, _, .nil, _ => .nil
  | _, _, .cons a t, hn => by
    rw [List.flatMap_cons, List.mem_append] at hn
    exact .cons (a.keepBut fun z => hn (.inl z)) (FldsAt.keepBut t fun z => hn (.inr z))
theorem SlotAt.keepBut {L : Addr} {o : HO} {t : Slot} (h : SlotAt W G H v t) (hn : L ∉ t.fp) (hL : ∀ xs, H L ≠ some (.tup xs)) : SlotAt W G (upd H L o) v t := by
  cases t with
  | no => trivial
  | im d => exact h
  | ow p ds =>
    obtain ⟨e, vs, a, b⟩ := h
    exact ⟨e, vs, by rw [upd_ne fun z => hn (by rw [← z]; exact List.mem_singleton.mpr rfl)]; exact a, b⟩
  | ob p C fs =>
    obtain ⟨e, dx, vfs, a, b, c⟩ := h
    refine ⟨e, dx, vfs, by rw [upd_ne fun z => hn (by rw [← z]; exact List.mem_cons_self)]; exact a, b, c.keepBut fun z => hn (List.mem_cons_of_mem _ ?_)⟩
    rw [flat2]
    exact z
  | tp p fs =>
    obtain ⟨e, vs, a, b⟩ := h
    exact ⟨e, vs, a, b.keepBut hn⟩
  | dt p ks ds =>
    obtain ⟨e, xs, a, b⟩ := h
    exact ⟨e, xs, by rw [upd_ne fun z => hn (by rw [← z]; exact List.mem_singleton.mpr rfl)]; exact a, b⟩
theorem putS_fp (ws : List (Nat × D)) : ∀ {ss : List Slot} {q : Nat} {t : Slot} {a : Addr}, (putS ss ws)[q]? = some t → a ∈ t.fp → ∃ (q' : Nat) (t' : Slot), ss[q']? = some t' ∧ a ∈ t'.fp := by
  induction ws with
  | nil => exact fun h ha => ⟨_, _, h, ha⟩
  | cons w r ih =>
    intro ss q t a h ha
    obtain ⟨q', t', h', ha'⟩ := ih (show (putS (ss.set w.1 (.im w.2)) r)[q]? = some t from h) ha
    rcases get_set h' with ⟨rfl, rfl, _⟩ | ⟨_, h'⟩
    · cases ha'
    · exact ⟨q', t', h', ha'⟩
theorem wipeS_fp : ∀ (vs : List Nat) {ss : List Slot} {q : Nat} {t : Slot} {a : Addr}, (wipeS ss vs)[q]? = some t → a ∈ t.fp → ∃ (q' : Nat) (t' : Slot), ss[q']? = some t' ∧ a ∈ t'.fp
  | [], _, _, _, _, h, ha => ⟨_, _, h, ha⟩
  | v :: vs, ss, q, t, a, h, ha => by
    unfold wipeS at h
    rcases get_set h with ⟨rfl, rfl, _⟩ | ⟨_, h'⟩
    · cases ha
    · exact wipeS_fp vs h' ha
end
theorem take_snoc {α : Type} {l : List α} {i : Nat} {d : α} (h : l[i]? = some d) : l.take (i + 1) = l.take i ++ [d] := by
  rw [List.take_add_one, h]
  rfl
theorem small {n : Nat} (h : n ≤ 100000) : n < sizeLine := Nat.lt_of_le_of_lt h (by decide)
section
variable {X : Cx} {ss : List Slot} {e a b c f tg it elt : Expr} {es rest ifs : List Expr} {pos p2 p : Pos} {scope : Scope} {own : List (Str × Nat)}
/-- what a list comprehension reads -/
theorem lcW {α : Type} {xs : List α} (enc : α → D) (f : α → Bool) (g : α → D) (ws : α → List (Nat × D)) (hi : EI X ss tg it (xs.map enc)) (hl : xs.length ≤ 100000)
    (hg : ∀ d ∈ xs, Bk X scope fun Y => GD Y (wipeS ss (own.map (·.2))) tg (enc d) (ws d)) (hw : ∀ d ∈ xs, ∀ p ∈ ws d, p.1 ∈ own.map (·.2))
    (ht : ∀ d ∈ xs, Bk X scope fun Y => ETs Y (putS (wipeS ss (own.map (·.2))) (ws d)) ifs (f d)) (he : ∀ d ∈ xs, f d = true → Bk X scope fun Y => EE Y (putS (wipeS ss (own.map (·.2))) (ws d)) elt (g d))
    {H0 G H : Hp} {σ : L2.St} (i : Ex G H) (s : Sls (wd X) H0 G H σ ss) (Q : VK) (k : GivO (wd X) G H ((xs.filter f).map g) Q) : tLc (wI X tg it) (uG X scope tg) (uTs X scope ifs) (uE X scope elt) (own.map (·.2)) σ H Q := by
  refine hi H0 G H σ i s _ fun J G1 H1 g1 wk L hL => ?_
  refine ⟨fun i m H' => m = xs.length - i ∧ i ≤ xs.length ∧ ∃ G' vs, Grow G1 H1 G' H' ∧ G' L = none ∧ H' L = some (.lst vs) ∧ RpA (wd X) G' vs (((xs.take i).filter f).map g),
    ⟨xs.length, by simp, Nat.zero_le _, G1, [], .hid g1.i hL, g1.i.back hL, upd_same, .nil⟩, ?_⟩
  rintro i m H' ⟨rfl, hi, G', vs, g', nG, hD, r⟩
  by_cases hlt : i < xs.length
  · refine .inr ⟨wk.go i H' (g'.g.trans g'.i) (by rw [List.length_map]; exact hlt), fun H' => ∃ G' vs, Grow G1 H1 G' H' ∧ G' L = none ∧ H' L = some (.lst vs) ∧ RpA (wd X) G' vs (((xs.take (i + 1)).filter f).map g),
      fun H' p' => ⟨xs.length - (i + 1), by omega, rfl, hlt, p'⟩, fun x H'' y => ?_⟩
    obtain ⟨rfl, d0, hd0, rd⟩ := wk.yld i x H' H'' (g'.g.trans g'.i) (by rw [List.length_map]; exact hlt) y
    rw [List.getElem?_map] at hd0
    obtain ⟨d, hd, rfl⟩ := Option.map_eq_some_iff.mp hd0
    have hm : d ∈ xs := List.mem_of_getElem? hd
    have sw := (s.grow (g1.trans g')).wipe (own.map (·.2))
    intro s0 Hb Cb clb fpb
    refine hg d hm s0 Hb Cb clb fpb H0 G' _ _ x g'.i sw (rd.up g'.g) _ fun σ2 s2 n2 => ⟨?_, ?_⟩
    · rw [wipe_same (own.map (·.2)) (σ := wipe σ (own.map (·.2))) (by rw [s2.len, putS_len, sw.len]) fun j hj => n2 j fun z => ?_]
      · exact wipe_same _ (wipe_length _ _) fun j hj => wipe_out hj
      · obtain ⟨q, hq, rfl⟩ := List.mem_map.mp z
        exact hj (hw d hm q hq)
    · intro s1 Hb1 Cb1 clb1 fpb1
      refine ht d hm s1 Hb1 Cb1 clb1 fpb1 H0 G' _ σ2 g'.i s2 _ fun G3 H3 g3 => ?_
      have e1 : (xs.take (i + 1)).filter f = (xs.take i).filter f ++ (if f d = true then [d] else []) := by
        rw [take_snoc hd, List.filter_append]
        simp only [List.filter_cons, List.filter_nil]
      cases hf : f d with
      | true =>
        refine iteT ?_
        intro s4 Hb4 Cb4 clb4 fpb4
        refine he d hm hf s4 Hb4 Cb4 clb4 fpb4 H0 G3 H3 σ2 g3.i (s2.grow g3) _ fun y G4 H4 g4 r4 => ?_
        have n4 := (g3.trans g4).off hD nG
        refine ⟨vs, (g3.trans g4).h _ _ hD, ?_, G4, vs ++ [y], (g'.trans (g3.trans g4)).mut hL n4, n4, upd_same, ?_⟩
        · refine small ?_
          rw [r.length, List.length_map]
          exact Nat.le_trans (List.length_filter_le _ _) (Nat.le_trans (by rw [List.length_take]; omega) hl)
        · rw [e1, hf, if_pos rfl, List.map_append]
          exact (r.up (g3.trans g4).g).snoc r4
      | false =>
        refine iteF ⟨G3, vs, g'.trans g3, g3.off hD nG, g3.h _ _ hD, ?_⟩
        rw [e1, hf, if_neg (by decide), List.append_nil]
        exact r.up g3.g
  · have e : i = xs.length := by omega
    subst e
    rw [List.take_length] at r
    refine .inl ⟨?_, k L vs G' H' (g1.h.back hL) (g1.trans g') nG hD r⟩
    have z := wk.stop H' (g'.g.trans g'.i)
    rw [List.length_map] at z
    exact z
/-- a list comprehension -/
theorem eo_lc {α : Type} {xs : List α} (enc : α → D) (f : α → Bool) (g : α → D) (ws : α → List (Nat × D)) (hN : X.N.Nodup) (ok : BlkOk X.N X.env.scope scope own) (hi : EI X ss tg it (xs.map enc)) (hl : xs.length ≤ 100000)
    (hg : ∀ d ∈ xs, Bk X scope fun Y => GD Y (wipeS ss (own.map (·.2))) tg (enc d) (ws d)) (hw : ∀ d ∈ xs, ∀ p ∈ ws d, p.1 ∈ own.map (·.2))
    (ht : ∀ d ∈ xs, Bk X scope fun Y => ETs Y (putS (wipeS ss (own.map (·.2))) (ws d)) ifs (f d)) (he : ∀ d ∈ xs, f d = true → Bk X scope fun Y => EE Y (putS (wipeS ss (own.map (·.2))) (ws d)) elt (g d))
    (hc : X.calm = true := by first | kernel_rfl! | rfl) (hs : ∀ x, foldedSetIterable it X.env x = pure x := by intro _; rfl) : EO X ss (.ListComp elt [⟨tg, it, ifs, 0⟩] scope pos) ((xs.filter f).map g) := fun H0 G H σ i s Q k => wE.of (pe_lc hc hN pi_w ok pg_u pts_u pe_u hs) (lcW enc f g ws hi hl hg hw ht he i s Q k)
/-- without a test -/
theorem eo_lc0 {α : Type} {xs : List α} (enc : α → D) (g : α → D) (ws : α → List (Nat × D)) (hN : X.N.Nodup) (ok : BlkOk X.N X.env.scope scope own) (hi : EI X ss tg it (xs.map enc)) (hl : xs.length ≤ 100000)
    (hg : ∀ d ∈ xs, Bk X scope fun Y => GD Y (wipeS ss (own.map (·.2))) tg (enc d) (ws d)) (hw : ∀ d ∈ xs, ∀ p ∈ ws d, p.1 ∈ own.map (·.2))
    (he : ∀ d ∈ xs, Bk X scope fun Y => EE Y (putS (wipeS ss (own.map (·.2))) (ws d)) elt (g d))
    (hc : X.calm = true := by first | kernel_rfl! | rfl) (hs : ∀ x, foldedSetIterable it X.env x = pure x := by intro _; rfl) : EO X ss (.ListComp elt [⟨tg, it, [], 0⟩] scope pos) (xs.map g) :=
  (eo_lc enc (fun _ => true) g ws hN ok hi hl hg hw (fun _ _ _ _ _ _ _ => ets_nil) (fun d hd _ => he d hd) hc hs).cast (by rw [List.filter_eq_self.mpr fun _ _ => rfl])
/-- a list comprehension over two -/
theorem eo_lc2 {tg1 it1 : Expr} {vs1 : List Nat} {α β : Type} {ds : List α} (enc : α → D) (es : α → List β) (enc1 : β → D) (g : α → β → D) (ws : α → List (Nat × D)) (ws1 : α → β → List (Nat × D)) (hN : X.N.Nodup) (ok : BlkOk X.N X.env.scope scope own) (hv : ∀ i ∈ vs1, i ∈ own.map (·.2)) (hi : EI X ss tg it (ds.map enc)) (hl : (ds.flatMap es).length ≤ 100000)
    (hg : ∀ d ∈ ds, Bk X scope fun Y => GD Y (wipeS ss (own.map (·.2))) tg (enc d) (ws d)) (hw : ∀ d ∈ ds, ∀ p ∈ ws d, p.1 ∈ own.map (·.2))
    (hi1 : ∀ d ∈ ds, Bk X scope fun Y => EI Y (putS (wipeS ss (own.map (·.2))) (ws d)) tg1 it1 ((es d).map enc1))
    (hg1 : ∀ d ∈ ds, ∀ d' ∈ es d, Bk X scope fun Y => GD Y (wipeS (putS (wipeS ss (own.map (·.2))) (ws d)) vs1) tg1 (enc1 d') (ws1 d d')) (hw1 : ∀ d ∈ ds, ∀ d' ∈ es d, ∀ p ∈ ws1 d d', p.1 ∈ vs1)
    (he : ∀ d ∈ ds, ∀ d' ∈ es d, Bk X scope fun Y => EE Y (putS (wipeS (putS (wipeS ss (own.map (·.2))) (ws d)) vs1) (ws1 d d')) elt (g d d'))
    (hc : X.calm = true := by first | kernel_rfl! | rfl) (hs : ∀ x, foldedSetIterable it X.env x = pure x := by intro _; rfl) (hs1 : ∀ env x, foldedSetIterable it1 env x = pure x := by intro _ _; rfl) :
    EO X ss (.ListComp elt [⟨tg, it, [], 0⟩, ⟨tg1, it1, [], 0⟩] scope pos) (ds.flatMap fun d => (es d).map (g d)) := fun H0 G H σ i s Q k => by
  have hlen : ∀ (dd : List α), (dd.flatMap fun d => (es d).map (g d)).length = (dd.flatMap es).length := fun dd => by
    induction dd with
    | nil => rfl
    | cons d r ih => rw [List.flatMap_cons, List.flatMap_cons, List.length_append, List.length_append, ih, List.length_map]
  refine wE.of (pe_lc2 hc hN pi_w ok hv pg_u pts_u pi_u pg_u pts_u pe_u hs hs1) (hi H0 G H σ i s _ fun J G1 H1 g1 wk L hL => ?_)
  refine ⟨fun i m H' => m = ds.length - i ∧ i ≤ ds.length ∧ ∃ G' vs, Grow G1 H1 G' H' ∧ G' L = none ∧ H' L = some (.lst vs) ∧ RpA (wd X) G' vs ((ds.take i).flatMap fun d => (es d).map (g d)),
    ⟨ds.length, by simp, Nat.zero_le _, G1, [], .hid g1.i hL, g1.i.back hL, upd_same, .nil⟩, ?_⟩
  rintro i m H' ⟨rfl, hi, G', vs, g', nG, hD, r⟩
  by_cases hlt : i < ds.length
  · refine .inr ⟨wk.go i H' (g'.g.trans g'.i) (by rw [List.length_map]; exact hlt), fun H' => ∃ G' vs, Grow G1 H1 G' H' ∧ G' L = none ∧ H' L = some (.lst vs) ∧ RpA (wd X) G' vs ((ds.take (i + 1)).flatMap fun d => (es d).map (g d)),
      fun H' p' => ⟨ds.length - (i + 1), by omega, rfl, hlt, p'⟩, fun x H'' y => ?_⟩
    obtain ⟨rfl, d0, hd0, rd⟩ := wk.yld i x H' H'' (g'.g.trans g'.i) (by rw [List.length_map]; exact hlt) y
    rw [List.getElem?_map] at hd0
    obtain ⟨d, hd, rfl⟩ := Option.map_eq_some_iff.mp hd0
    have hm : d ∈ ds := List.mem_of_getElem? hd
    have sw := (s.grow (g1.trans g')).wipe (own.map (·.2))
    intro s0 Hb Cb clb fpb
    refine hg d hm s0 Hb Cb clb fpb H0 G' _ _ x g'.i sw (rd.up g'.g) _ fun σ2 s2 n2 => ⟨?_, ?_⟩
    · rw [wipe_same (own.map (·.2)) (σ := wipe σ (own.map (·.2))) (by rw [s2.len, putS_len, sw.len]) fun j hj => n2 j fun z => ?_]
      · exact wipe_same _ (wipe_length _ _) fun j hj => wipe_out hj
      · obtain ⟨q, hq, rfl⟩ := List.mem_map.mp z
        exact hj (hw d hm q hq)
    · intro s1 Hb1 Cb1 clb1 fpb1
      refine ets_nil (X := X.blk s1 Hb1 scope (compEnvC scope clb1 Cb1 X.env) fpb1) H0 G' _ σ2 g'.i s2 _ fun G3 H3 g3 => iteT ?_
      intro s5 Hb5 Cb5 clb5 fpb5
      refine hi1 d hm s5 Hb5 Cb5 clb5 fpb5 H0 G3 H3 σ2 g3.i (s2.grow g3) _ fun J5 G5 H5 g5 wk5 => ?_
      have e1 : ((ds.take (i + 1)).flatMap fun d => (es d).map (g d)) = ((ds.take i).flatMap fun d => (es d).map (g d)) ++ (es d).map (g d) := by
        rw [take_snoc hd, List.flatMap_append]
        simp
      have s5' := s2.grow (g3.trans g5)
      refine ⟨fun j m H6 => m = (es d).length - j ∧ j ≤ (es d).length ∧ ∃ G6 vs, Grow G5 H1 G6 H6 ∧ G6 L = none ∧ H6 L = some (.lst vs) ∧ Sls (wd X) H0 G6 H6 σ2 (putS (wipeS ss (own.map (·.2))) (ws d)) ∧ RpA (wd X) G6 vs (((ds.take i).flatMap fun d => (es d).map (g d)) ++ ((es d).take j).map (g d)), ⟨(es d).length, by simp, Nat.zero_le _, G5, vs, ?_, (g3.trans g5).off hD nG, (g3.trans g5).h _ _ hD, s5', ?_⟩, ?_⟩
      · refine ⟨.refl _, (g'.trans (g3.trans g5)).h, g5.i, fun a o h => .inl h⟩
      · rw [List.take_zero, List.map_nil, List.append_nil]
        exact r.up (g3.trans g5).g
      · rintro j m H6 ⟨rfl, hj, G6, vs6, g6, n6, hD6, s6, r6⟩
        by_cases hjl : j < (es d).length
        · refine .inr ⟨wk5.go j H6 (g6.g.trans g6.i) (by rw [List.length_map]; exact hjl), fun H6 => ∃ G6 vs, Grow G5 H1 G6 H6 ∧ G6 L = none ∧ H6 L = some (.lst vs) ∧ Sls (wd X) H0 G6 H6 σ2 (putS (wipeS ss (own.map (·.2))) (ws d)) ∧ RpA (wd X) G6 vs (((ds.take i).flatMap fun d => (es d).map (g d)) ++ ((es d).take (j + 1)).map (g d)),
            fun H' p' => ⟨(es d).length - (j + 1), by omega, rfl, hjl, p'⟩, fun x7 H7 y7 => ?_⟩
          obtain ⟨rfl, d0', hd0', rd'⟩ := wk5.yld j x7 H6 H7 (g6.g.trans g6.i) (by rw [List.length_map]; exact hjl) y7
          rw [List.getElem?_map] at hd0'
          obtain ⟨d', hd', rfl⟩ := Option.map_eq_some_iff.mp hd0'
          have hm' : d' ∈ es d := List.mem_of_getElem? hd'
          have sw6 := s6.wipe vs1
          intro s8 Hb8 Cb8 clb8 fpb8
          refine hg1 d hm d' hm' s8 Hb8 Cb8 clb8 fpb8 H0 G6 _ _ x7 g6.i sw6 (rd'.up g6.g) _ fun σ8 s8' n8 => ⟨?_, ?_⟩
          · rw [wipe_same vs1 (σ := wipe σ2 vs1) (by rw [s8'.len, putS_len, sw6.len]) fun j hj => n8 j fun z => ?_]
            · exact wipe_same _ (wipe_length _ _) fun j hj => wipe_out hj
            · obtain ⟨q, hq, rfl⟩ := List.mem_map.mp z
              exact hj (hw1 d hm d' hm' q hq)
          · intro s9 Hb9 Cb9 clb9 fpb9
            refine ets_nil (X := X.blk s9 Hb9 scope (compEnvC scope clb9 Cb9 X.env) fpb9) H0 G6 _ σ8 g6.i s8' _ fun G9 H9 g9 => iteT ?_
            intro s10 Hb10 Cb10 clb10 fpb10
            refine he d hm d' hm' s10 Hb10 Cb10 clb10 fpb10 H0 G9 H9 σ8 g9.i (s8'.grow g9) _ fun y G10 H10 g10 r10 => ?_
            have n10 := (g9.trans g10).off hD6 n6
            have g610 : Grow G5 H1 G10 H10 := ⟨g6.g.trans (g9.trans g10).g, g6.h.trans (g9.trans g10).h, g10.i, fun a o h => by
              rcases (g9.trans g10).n a o h with z | z
              · exact g6.n a o z
              · exact .inr (g6.h.back z)⟩
            have hw6 := s6.grow (g9.trans g10)
            refine ⟨vs6, (g9.trans g10).h _ _ hD6, ?_, G10, vs6 ++ [y], g610.mut hL n10, n10, upd_same, ?_, ?_⟩
            · refine small ?_
              rw [r6.length, List.length_append, hlen, List.length_map]
              refine Nat.le_trans ?_ hl
              have e2 : ((ds.take (i + 1)).flatMap es).length = ((ds.take i).flatMap es).length + (es d).length := by
                rw [take_snoc hd, List.flatMap_append]
                simp
              have e3 : ((ds.take (i + 1)).flatMap es).length ≤ (ds.flatMap es).length := by
                conv => rhs; rw [← List.take_append_drop (i + 1) ds]
                rw [List.flatMap_append, List.length_append]
                omega
              have e4 : ((es d).take j).length ≤ (es d).length := by rw [List.length_take]; omega
              omega
            · refine ⟨hw6.len, fun q t ht => ?_, hw6.off, hw6.nd, hw6.dj⟩
              rcases hw6.at_ q t ht with z | ⟨v, h1, h2⟩
              · exact .inl z
              · refine .inr ⟨v, h1, ?_⟩
                refine SlotAt.keepBut h2 (fun hq => ?_) fun xs z => ?_
                obtain ⟨q1, t1, h1', ha1⟩ := putS_fp _ ht hq
                obtain ⟨q2, t2, h2', ha2⟩ := wipeS_fp _ h1' ha1
                obtain ⟨o2, ho2⟩ := s.dom h2' ha2
                rw [g1.h _ _ ho2] at hL
                cases hL
                rw [(g9.trans g10).h _ _ hD6] at z
                cases z
            · rw [take_snoc hd', List.map_append, ← List.append_assoc]
              exact (r6.up (g9.trans g10).g).snoc r10
        · have ej : j = (es d).length := by omega
          subst ej
          rw [List.take_length] at r6
          refine .inl ⟨by have z := wk5.stop H6 (g6.g.trans g6.i); rw [List.length_map] at z; exact z, G6, vs6, ⟨(g'.trans (g3.trans g5)).g.trans g6.g, g6.h, g6.i, fun a o h => ?_⟩, n6, hD6, by rw [e1]; exact r6⟩
          rcases g6.n a o h with z | z
          · exact (g'.trans (g3.trans g5)).n a o z
          · exact .inr z
  · have e : i = ds.length := by omega
    subst e
    rw [List.take_length] at r
    exact .inl ⟨by have z := wk.stop H' (g'.g.trans g'.i); rw [List.length_map] at z; exact z, k L vs G' H' (g1.h.back hL) (g1.trans g') nG hD r⟩
end
end Fw
namespace Fw
open PySem PySem.Spec PyProof.Rows L2
/-! ### statements -/
structure Post where
  nx : List Slot → Prop
  rt : Slot → List Slot → Prop
  bk : List Slot → Prop := fun _ => False
  ct : List Slot → Prop := fun _ => False
structure EndsOk (W : Wd) (G0 H0 : Hp) (P : Post) (E : Ends) : Prop where
  nx : ∀ G H σ ss, Grow G0 H0 G H → Sls W H0 G H σ ss → P.nx ss → E.nx σ H
  rt : ∀ G H σ ss v s, Grow G0 H0 G H → Sls W H0 G H σ ss → SlotAt W G H v s → s ≠ .no → (∀ a ∈ s.fp, G a = none ∧ H0 a = none) → s.fp.Nodup → P.rt s ss → E.rt v H
  bk : ∀ G H σ ss, Grow G0 H0 G H → Sls W H0 G H σ ss → P.bk ss → E.bk σ H
  ct : ∀ G H σ ss, Grow G0 H0 G H → Sls W H0 G H σ ss → P.ct ss → E.ct σ H
def SD (X : Cx) (ss : List Slot) (b : List Stmt) (P : Post) : Prop := ∀ G0 H0 G H σ, Grow G0 H0 G H → Sls (wd X) H0 G H σ ss → ∀ E : Ends, EndsOk (wd X) G0 H0 P E → wSs X b E σ H
def SS (X : Cx) (ss : List Slot) (b : Stmt) (P : Post) : Prop := ∀ G0 H0 G H σ, Grow G0 H0 G H → Sls (wd X) H0 G H σ ss → ∀ E : Ends, EndsOk (wd X) G0 H0 P E → wS X b E σ H
section
variable {X : Cx} {ss : List Slot} {st : Stmt} {rest A B : List Stmt} {P : Post} {e a b c f tg it : Expr} {es : List Expr} {pos p2 p p' : Pos}
theorem sd_nil (h : P.nx ss) : SD X ss [] P := fun G0 H0 G H σ g s E k => wSs.of pss_nil (k.nx G H σ ss g s h)
theorem sd_cons (h : SS X ss st { P with nx := fun ss' => SD X ss' rest P }) : SD X ss (st :: rest) P := fun G0 H0 G H σ g s E k => wSs.of (pss_cons ps_w pss_w) (h G0 H0 G H σ g s { E with nx := wSs X rest E } ⟨fun G' H' σ' ss' g' s' h' => h' G0 H0 G' H' σ' g' s' E k, k.rt, k.bk, k.ct⟩)
theorem ss_asg (i : Nat) {d : D} {x : Str} (h : EE X ss e d) (k : P.nx (ss.set i (.im d))) (hN : X.N.Nodup) (hi : (ss[i]?).isSome = true := by first | kernel_rfl! | rfl) (hx : X.N[i]? = some x := by first | kernel_rfl! | rfl) (hl : Loc X.env.scope x := by first | exact Or.inl (by kernel_rfl!) | exact Or.inr (by kernel_rfl!) | exact Or.inl rfl | exact Or.inr rfl)
    (hs : swapsWith e (some (.Name x p')) pos.line X.env = pure false := by first | kernel_rfl! | rfl) (hf : X.fn x = true ∨ X.env.scope.names.lookup x = some .local := by first | exact .inl (by kernel_rfl!) | exact .inr (by kernel_rfl!) | exact .inl rfl | exact .inr rfl) : SS X ss (.Assign [.Name x p'] e pos) P := fun G0 H0 G H σ g s E q =>
  wS.of (ps_set hN hx hl pe_w hs hf) (h H0 G H σ g.i s _ fun v G1 H1 g1 r1 => q.nx G1 H1 _ _ (g.trans g1) ((s.grow g1).im (lt_some hi) r1) k)
/-- a new list is kept by its owner -/
theorem Sls.own {W : Wd} {H0 G H : Hp} {σ : L2.St} {ss : List Slot} (s : Sls W H0 G H σ ss) {i : Nat} (hi : i < ss.length) {p : Addr} {vs : List V} {ds : List D} (h1 : H p = some (.lst vs)) (r : RpA W G vs ds) (hg : G p = none) (h0 : H0 p = none)
    (hd : ∀ (j : Nat) t, ss[j]? = some t → p ∉ t.fp) : Sls W H0 G H (σ.set i (some (.ref p))) (ss.set i (.ow p ds)) :=
  s.put hi (.inr ⟨rfl, vs, h1, r⟩) (fun a ha => by rw [List.mem_singleton.mp ha]; exact ⟨hg, h0⟩) (by simp [Slot.fp]) fun j t _ ht a ha hb => by
    rw [List.mem_singleton.mp ha] at hb
    exact hd j t ht hb
theorem Sls.fresh {W : Wd} {H0 G H : Hp} {σ : L2.St} {ss : List Slot} (s : Sls W H0 G H σ ss) {p : Addr} (hp : H p = none) : ∀ (j : Nat) t, ss[j]? = some t → p ∉ t.fp := fun j t ht hb => by
  obtain ⟨o, ho⟩ := s.dom ht hb
  rw [hp] at ho
  cases ho
theorem ss_asgO (i : Nat) {ds : List D} {x : Str} (h : EO X ss e ds) (k : ∀ q, P.nx (ss.set i (.ow q ds))) (hN : X.N.Nodup) (hi : (ss[i]?).isSome = true := by first | kernel_rfl! | rfl) (hx : X.N[i]? = some x := by first | kernel_rfl! | rfl) (hl : Loc X.env.scope x := by first | exact Or.inl (by kernel_rfl!) | exact Or.inr (by kernel_rfl!) | exact Or.inl rfl | exact Or.inr rfl)
    (hs : swapsWith e (some (.Name x p')) pos.line X.env = pure false := by first | kernel_rfl! | rfl) (hf : X.fn x = true ∨ X.env.scope.names.lookup x = some .local := by first | exact .inl (by kernel_rfl!) | exact .inr (by kernel_rfl!) | exact .inl rfl | exact .inr rfl) : SS X ss (.Assign [.Name x p'] e pos) P := fun G0 H0 G H σ g s E q =>
  wS.of (ps_set hN hx hl pe_w hs hf) (h H0 G H σ g.i s _ fun p vs G1 H1 hn g1 hg hp r1 => q.nx G1 H1 _ _ (g.trans g1) ((s.grow g1).own (lt_some hi) hp r1 hg (g.h.back hn) (s.fresh hn)) (k p))
theorem ss_expr {d : D} (h : EE X ss e d) (k : P.nx ss) (hs : swapsWith e none pos.line X.env = pure false := by first | kernel_rfl! | rfl) : SS X ss (.Expr e pos) P := fun G0 H0 G H σ g s E q =>
  wS.of (ps_expr pe_w hs) (h H0 G H σ g.i s _ fun v G1 H1 g1 r1 => q.nx G1 H1 σ ss (g.trans g1) (s.grow g1) k)
theorem ss_ret {d : D} (h : EE X ss e d) (k : P.rt (.im d) ss) : SS X ss (.Return (some e) pos) P := fun G0 H0 G H σ g s E q =>
  wS.of (ps_ret pe_w) (h H0 G H σ g.i s _ fun v G1 H1 g1 r1 => q.rt G1 H1 σ ss v (.im d) (g.trans g1) (s.grow g1) r1 (by intro z; cases z) (fun a ha => nomatch ha) List.nodup_nil k)
/-- an owned thing is handed out -/
theorem ss_retN (i : Nat) {t : Slot} {x : Str} (h : ss[i]? = some t) (ht : t ≠ .no) (k : P.rt t ss) (hN : X.N[i]? = some x := by first | kernel_rfl! | rfl) (hv : Vis X.env.scope x := by first | exact Or.inl (by kernel_rfl!) | exact Or.inr (Or.inl (by kernel_rfl!)) | exact Or.inr (Or.inr (by kernel_rfl!)) | exact Or.inl rfl | exact Or.inr (Or.inl rfl) | exact Or.inr (Or.inr rfl)) (hd : (x == ("__debug__" : Str)) = false := by decide)
    (hcd : (x == ("__classdict__" : Str)) = false := by decide) : SS X ss (.Return (some (.Name x p')) pos) P := fun G0 H0 G H σ g s E q => by
  obtain ⟨v, e, r⟩ := s.got h ht
  exact wS.of (ps_ret (pe_var hN hv hd hcd)) ⟨v, e, q.rt G H σ ss v t g s r ht (s.off i t h) (s.nd i t h) k⟩
theorem ss_retO {ds : List D} (h : EO X ss e ds) (k : ∀ q, P.rt (.ow q ds) ss) : SS X ss (.Return (some e) pos) P := fun G0 H0 G H σ g s E q =>
  wS.of (ps_ret pe_w) (h H0 G H σ g.i s _ fun p vs G1 H1 hn g1 hg hp r1 => q.rt G1 H1 σ ss (.ref p) (.ow p ds) (g.trans g1) (s.grow g1) ⟨rfl, vs, hp, r1⟩ (by intro z; cases z) (fun a ha => by rw [List.mem_singleton.mp ha]; exact ⟨hg, g.h.back hn⟩) (by simp [Slot.fp]) (k p))
theorem ss_if {x : Bool} (h : ET X ss c x) (h1 : x = true → SD X ss A P) (h2 : x = false → SD X ss B P) : SS X ss (.If c A B pos) P := fun G0 H0 G H σ g s E q =>
  wS.of (ps_if pt_w pss_w pss_w) (h H0 G H σ g.i s _ fun G1 H1 g1 => by
    cases x with
    | true => exact iteT (h1 rfl G0 H0 G1 H1 σ (g.trans g1) (s.grow g1) E q)
    | false => exact iteF (h2 rfl G0 H0 G1 H1 σ (g.trans g1) (s.grow g1) E q))
theorem ss_pass (k : P.nx ss) : SS X ss (.Pass pos) P := fun G0 H0 G H σ g s E q => wS.of ps_pass (q.nx G H σ ss g s k)
theorem ss_cont (k : P.ct ss) : SS X ss (.Continue pos) P := fun G0 H0 G H σ g s E q => wS.of ps_continue (q.ct G H σ ss g s k)
theorem ss_brk (k : P.bk ss) : SS X ss (.Break pos) P := fun G0 H0 G H σ g s E q => wS.of ps_break (q.bk G H σ ss g s k)
/-- an owned list becomes known -/
theorem Sls.know {W : Wd} {G0 H0 G H : Hp} {σ : L2.St} {ss : List Slot} (g : Grow G0 H0 G H) (s : Sls W H0 G H σ ss) {i : Nat} {p : Addr} {ds : List D} (h : ss[i]? = some (.ow p ds)) :
    ∃ G', Grow G0 H0 G' H ∧ Sls W H0 G' H σ (ss.set i (.im (.lst ds))) := by
  obtain ⟨v, e, rfl, vs, hp, r⟩ := s.got h (by intro z; cases z)
  obtain ⟨n1, n2⟩ := s.off i _ h p (List.mem_singleton.mpr rfl)
  have hil : i < ss.length := (List.getElem?_eq_some_iff.mp h).1
  refine ⟨upd G p (.lst vs), g.know n2 hp, ⟨by rw [List.length_set, s.len], fun j t e' => ?_, fun j t e' a ha => ?_, fun j t e' => ?_, fun j k t u ne e1 e2 a ha hb => ?_⟩⟩
  · rcases get_set e' with ⟨rfl, rfl, _⟩ | ⟨ne, e'⟩
    · exact .inr ⟨_, e, .lst upd_same (r.up (Ex.new n1))⟩
    · rcases s.at_ j t e' with z | ⟨v', h1, h2⟩
      · exact .inl z
      · exact .inr ⟨v', h1, h2.mono (Ex.new n1) (.refl _)⟩
  · rcases get_set e' with ⟨rfl, rfl, _⟩ | ⟨ne, e'⟩
    · cases ha
    · obtain ⟨m1, m2⟩ := s.off j t e' a ha
      refine ⟨?_, m2⟩
      rw [upd_ne fun z => ?_]
      · exact m1
      · subst z
        exact s.dj j i t _ ne e' h a ha (List.mem_singleton.mpr rfl)
  · rcases get_set e' with ⟨rfl, rfl, _⟩ | ⟨ne, e'⟩
    · exact List.nodup_nil
    · exact s.nd j t e'
  · rcases get_set e1 with ⟨rfl, rfl, _⟩ | ⟨n1, e1⟩
    · cases ha
    · rcases get_set e2 with ⟨rfl, rfl, _⟩ | ⟨n2, e2⟩
      · cases hb
      · exact s.dj j k t u ne e1 e2 a ha hb
theorem sd_know (i : Nat) {p : Addr} {ds : List D} (h : ss[i]? = some (.ow p ds)) (k : SD X (ss.set i (.im (.lst ds))) rest P) : SD X ss rest P := fun G0 H0 G H σ g s E q => by
  obtain ⟨G', g', s'⟩ := Sls.know g s h
  exact k G0 H0 G' H σ g' s' E q
/-- an owned list changes -/
theorem Sls.mutL {W : Wd} {H0 G H : Hp} {σ : L2.St} {ss : List Slot} (s : Sls W H0 G H σ ss) {i : Nat} {p : Addr} {ds es : List D} {vs : List V} (h : ss[i]? = some (.ow p ds)) (r : RpA W G vs es) : Sls W H0 G (upd H p (.lst vs)) σ (ss.set i (.ow p es)) := by
  obtain ⟨v, e, rfl, us, hp, _⟩ := s.got h (by intro z; cases z)
  have hil : i < ss.length := (List.getElem?_eq_some_iff.mp h).1
  refine ⟨by rw [List.length_set, s.len], fun j t e' => ?_, fun j t e' a ha => ?_, fun j t e' => ?_, fun j k t u ne e1 e2 a ha hb => ?_⟩
  · rcases get_set e' with ⟨rfl, rfl, _⟩ | ⟨ne, e'⟩
    · exact .inr ⟨_, e, rfl, vs, upd_same, r⟩
    · rcases s.at_ j t e' with z | ⟨v', h1, h2⟩
      · exact .inl z
      · exact .inr ⟨v', h1, h2.keepBut (fun z => s.dj j i t _ ne e' h p z (List.mem_singleton.mpr rfl)) fun xs z => by rw [hp] at z; cases z⟩
  · rcases get_set e' with ⟨rfl, rfl, _⟩ | ⟨ne, e'⟩
    · exact s.off _ _ h a ha
    · exact s.off j t e' a ha
  · rcases get_set e' with ⟨rfl, rfl, _⟩ | ⟨ne, e'⟩
    · simp [Slot.fp]
    · exact s.nd j t e'
  · rcases get_set e1 with ⟨ej, et, _⟩ | ⟨n1, e1'⟩
    · rcases get_set e2 with ⟨ek, eu, _⟩ | ⟨n2, e2'⟩
      · exact ne (ej.trans ek.symm)
      · rw [et] at ha
        exact s.dj i k (.ow p ds) u (Ne.symm n2) h e2' a ha hb
    · rcases get_set e2 with ⟨ek, eu, _⟩ | ⟨n2, e2'⟩
      · rw [eu] at hb
        exact s.dj j i t (.ow p ds) n1 e1' h a ha hb
      · exact s.dj j k t u ne e1' e2' a ha hb
theorem Grow.mutE {G0 H0 G H : Hp} {p : Addr} {o : HO} (g : Grow G0 H0 G H) (n1 : G p = none) (n2 : H0 p = none) : Grow G0 H0 G (upd H p o) := ⟨g.g, g.h.mut n2, g.i.mut n1, g.n⟩
/-- x.append(e), x an owned list -/
theorem ss_app (i : Nat) {q : Addr} {ds : List D} {d : D} {x : Str} {apos cpos : Pos} (hs : ss[i]? = some (.ow q ds)) (h : EE X ss e d) (hl : ds.length ≤ 100000) (k : P.nx (ss.set i (.ow q (ds ++ [d])))) (hN : X.N[i]? = some x := by first | kernel_rfl! | rfl) (hv : Vis X.env.scope x := by first | exact Or.inl (by kernel_rfl!) | exact Or.inr (Or.inl (by kernel_rfl!)) | exact Or.inr (Or.inr (by kernel_rfl!)) | exact Or.inl rfl | exact Or.inr (Or.inl rfl) | exact Or.inr (Or.inr rfl)) (hd : (x == ("__debug__" : Str)) = false := by decide)
    (hcd : (x == ("__classdict__" : Str)) = false := by decide)
    (hbase : attributeBase (.Name x p') "append" X.env (eval (.Name x p') X.env) = eval (.Name x p') X.env := by first | kernel_rfl! | rfl)
    (hfew : ((backTo cpos (starEach [e] X.env)).all (fun x => !x.1) && (backToKw cpos (keywordEach [] X.env)).all (fun x => x.1.isSome)
      && decide (([e] : List Expr).length + ([] : List Keyword).length + (if ([] : List Keyword).isEmpty then 0 else 1) < 30)) = true := by first | kernel_rfl! | rfl)
    (hline : (apos.endLine == cpos.line) = true := by first | kernel_rfl! | rfl) (hse : starEach [e] X.env = (false, eval e X.env) :: starEach [] X.env := by first | kernel_rfl! | rfl) (hplain : (backTo cpos (starEach [] X.env)).any (·.1) = false := by first | kernel_rfl! | rfl)
    (hsw : swapsWith (.Call (.Attribute (.Name x p') "append" apos) [e] [] cpos) none pos.line X.env = pure false := by first | kernel_rfl! | rfl) : SS X ss (.Expr (.Call (.Attribute (.Name x p') "append" apos) [e] [] cpos) pos) P := fun G0 H0 G H σ g s E z => by
  obtain ⟨v, e1, rfl, vs, hp, r⟩ := s.got hs (by intro z; cases z)
  obtain ⟨n1, n2⟩ := s.off i _ hs q (List.mem_singleton.mpr rfl)
  refine wS.of (ps_expr (pe_bm PySem.F.plainAttrs_list PySem.F.slot_list_append PySem.F.type_list_append mt_append (pe_var hN hv hd hcd) pa_w hbase hfew hline hse hplain) hsw) ⟨_, e1, .inl ⟨rfl, _, SqL.of hp⟩, ?_⟩
  refine ea_cons h ea_nil hse H0 G H σ g.i s _ fun ws G1 H1 g1 r1 => ?_
  cases r1 with
  | cons r1 t =>
    cases t
    have s1 := s.grow g1
    refine ⟨_, _, _, rfl, rfl, g1.h _ _ hp, small (by rw [r.length]; exact hl), ?_⟩
    exact z.nx G1 _ _ _ ((g.trans g1).mutE (g1.off hp n1) n2) (s1.mutL hs ((r.up g1.g).snoc r1)) k
/-- x.extend(e), x an owned list, e a new one -/
theorem ss_ext (i : Nat) {q : Addr} {ds es : List D} {x : Str} {apos cpos : Pos} (hs : ss[i]? = some (.ow q ds)) (h : EE X ss e (.lst es)) (hl : ds.length + es.length ≤ 100000) (k : P.nx (ss.set i (.ow q (ds ++ es)))) (hN : X.N[i]? = some x := by first | kernel_rfl! | rfl) (hv : Vis X.env.scope x := by first | exact Or.inl (by kernel_rfl!) | exact Or.inr (Or.inl (by kernel_rfl!)) | exact Or.inr (Or.inr (by kernel_rfl!)) | exact Or.inl rfl | exact Or.inr (Or.inl rfl) | exact Or.inr (Or.inr rfl)) (hd : (x == ("__debug__" : Str)) = false := by decide)
    (hcd : (x == ("__classdict__" : Str)) = false := by decide)
    (hbase : attributeBase (.Name x p') "extend" X.env (eval (.Name x p') X.env) = eval (.Name x p') X.env := by first | kernel_rfl! | rfl)
    (hfew : ((backTo cpos (starEach [e] X.env)).all (fun x => !x.1) && (backToKw cpos (keywordEach [] X.env)).all (fun x => x.1.isSome)
      && decide (([e] : List Expr).length + ([] : List Keyword).length + (if ([] : List Keyword).isEmpty then 0 else 1) < 30)) = true := by first | kernel_rfl! | rfl)
    (hline : (apos.endLine == cpos.line) = true := by first | kernel_rfl! | rfl) (hse : starEach [e] X.env = (false, eval e X.env) :: starEach [] X.env := by first | kernel_rfl! | rfl) (hplain : (backTo cpos (starEach [] X.env)).any (·.1) = false := by first | kernel_rfl! | rfl)
    (hsw : swapsWith (.Call (.Attribute (.Name x p') "extend" apos) [e] [] cpos) none pos.line X.env = pure false := by first | kernel_rfl! | rfl) : SS X ss (.Expr (.Call (.Attribute (.Name x p') "extend" apos) [e] [] cpos) pos) P := fun G0 H0 G H σ g s E z => by
  obtain ⟨v, e1, rfl, vs, hp, r⟩ := s.got hs (by intro z; cases z)
  obtain ⟨n1, n2⟩ := s.off i _ hs q (List.mem_singleton.mpr rfl)
  refine wS.of (ps_expr (pe_bm PySem.F.plainAttrs_list PySem.F.slot_list_extend PySem.F.type_list_extend mt_extend (pe_var hN hv hd hcd) pa_w hbase hfew hline hse hplain) hsw) ⟨_, e1, .inl ⟨rfl, _, SqL.of hp⟩, ?_⟩
  refine ea_cons h ea_nil hse H0 G H σ g.i s _ fun ws G1 H1 g1 r1 => ?_
  cases r1 with
  | cons r1 t =>
    cases t
    have s1 := s.grow g1
    cases r1 with
    | lst w r1 =>
      refine ⟨_, _, _, _, rfl, rfl, g1.h _ _ hp, g1.i _ _ w, by rw [r.length, r1.length]; exact Nat.le_trans hl (by decide), ?_⟩
      exact z.nx G1 _ _ _ ((g.trans g1).mutE (g1.off hp n1) n2) (s1.mutL hs ((r.up g1.g).append r1)) k
/-- tuple target -/
theorem ss_tup {d : D} {ws : List (Nat × D)} (h : EE X ss e d) (hg : GD X ss tg d ws) (k : P.nx (putS ss ws)) (hs : swapsWithSole [tg] e pos.line X.env = pure false := by first | kernel_rfl! | rfl) (hw : swappedStores [tg] e X.env = pure none := by first | kernel_rfl! | rfl)
    (h1 : (assignEach [tg] X.env).map (·.2) = [assign tg X.env] := by first | kernel_rfl! | rfl) : SS X ss (.Assign [tg] e pos) P := fun G0 H0 G H σ g s E q =>
  wS.of (ps_asg pe_w pg_w hs hw h1) (h H0 G H σ g.i s _ fun v G1 H1 g1 r1 => hg H0 G1 H1 σ v g1.i (s.grow g1) r1 _ fun σ' s' _ => q.nx G1 H1 σ' _ (g.trans g1) s' k)
/-- for -/
theorem ss_for {α : Type} {ds : List α} (enc : α → D) (ws : α → List (Nat × D)) (hi : EI X ss tg it (ds.map enc)) (Iv : Nat → List Slot → Prop) (h0 : Iv 0 ss) (hg : ∀ (i : Nat) d ss', ds[i]? = some d → Iv i ss' → GD X ss' tg (enc d) (ws d))
    (hb : ∀ (i : Nat) d ss', ds[i]? = some d → Iv i ss' → SD X (putS ss' (ws d)) A { P with nx := Iv (i + 1), ct := Iv (i + 1), bk := P.nx }) (hd : ∀ ss', Iv ds.length ss' → P.nx ss')
    (hp : PassesOwn (model X.prog X.w) X.A X.env X.xe := by exact PassesOwn.never) (hc : X.calm = true := by first | kernel_rfl! | rfl) (hs : ∀ x, foldedSetIterable it X.env x = pure x := by intro _; rfl) : SS X ss (.For tg it A [] pos) P := fun G0 H0 G H σ g s E q => by
  refine wS.of (ps_for hp hc pi_w pg_w pss_w hs) (hi H0 G H σ g.i s _ fun J G1 H1 g1 wk => ?_)
  have g01 := g.trans g1
  have sh : ∀ {G' H'}, Grow G1 H0 G' H' → Grow G0 H0 G' H' := fun z => ⟨g01.g.trans z.g, z.h, z.i, fun a o h => by
    rcases z.n a o h with y | y
    · exact g01.n a o y
    · exact .inr y⟩
  refine ⟨fun i m σ' H' => m = ds.length - i ∧ i ≤ ds.length ∧ ∃ G' ss', Grow G1 H0 G' H' ∧ Sls (wd X) H0 G' H' σ' ss' ∧ Iv i ss', ⟨ds.length, by simp, Nat.zero_le _, G1, ss, ⟨.refl _, g01.h, g01.i, fun a o h => .inl h⟩, s.grow g1, h0⟩, ?_⟩
  rintro i m σ' H' ⟨rfl, hi, G', ss', g', s', iv⟩
  by_cases hlt : i < ds.length
  · refine .inr ⟨wk.go i H' (g'.g.trans g'.i) (by rw [List.length_map]; exact hlt), fun σ' H' => ∃ G' ss', Grow G1 H0 G' H' ∧ Sls (wd X) H0 G' H' σ' ss' ∧ Iv (i + 1) ss', fun σ' H' p' => ⟨ds.length - (i + 1), by omega, rfl, hlt, p'⟩, fun x H'' y => ?_⟩
    obtain ⟨rfl, d0, hd0, rd⟩ := wk.yld i x H' H'' (g'.g.trans g'.i) (by rw [List.length_map]; exact hlt) y
    rw [List.getElem?_map] at hd0
    obtain ⟨d, hd', rfl⟩ := Option.map_eq_some_iff.mp hd0
    refine hg i d ss' hd' iv H0 G' _ σ' x g'.i s' (rd.up g'.g) _ fun σ2 s2 _ => ?_
    exact hb i d ss' hd' iv G1 H0 G' _ σ2 g' s2 _ ⟨fun G3 H3 σ3 ss3 g3 s3 iv3 => ⟨G3, ss3, g3, s3, iv3⟩, fun G3 H3 σ3 ss3 v t g3 s3 a1 a2 a3 a4 a5 => q.rt G3 H3 σ3 ss3 v t (sh g3) s3 a1 a2 a3 a4 a5, fun G3 H3 σ3 ss3 g3 s3 b3 => q.nx G3 H3 σ3 ss3 (sh g3) s3 b3, fun G3 H3 σ3 ss3 g3 s3 iv3 => ⟨G3, ss3, g3, s3, iv3⟩⟩
  · have e : i = ds.length := by omega
    subst e
    exact .inl ⟨by have z := wk.stop H' (g'.g.trans g'.i); rw [List.length_map] at z; exact z, q.nx G' H' σ' ss' (sh g') s' (hd ss' iv)⟩
/-- while -/
theorem ss_while (Iv : Nat → List Slot → Prop) (m0 : Nat) (h0 : Iv m0 ss) (hb : ∀ m ss', Iv m ss' → ∃ x, ET X ss' c x ∧ (x = true → SD X ss' A { P with nx := fun s => ∃ m', m' < m ∧ Iv m' s, ct := fun s => ∃ m', m' < m ∧ Iv m' s, bk := P.nx }) ∧ (x = false → P.nx ss'))
    (hp : PassesOwn (model X.prog X.w) X.A X.env X.xe := by exact PassesOwn.never) : SS X ss (.While c A [] pos) P := fun G0 H0 G H σ g s E q => by
  refine wS.of (ps_while hp pt_w pss_w) ⟨fun m σ' H' => ∃ G' ss', Grow G0 H0 G' H' ∧ Sls (wd X) H0 G' H' σ' ss' ∧ Iv m ss', ⟨m0, G, ss, g, s, h0⟩, ?_⟩
  rintro m σ' H' ⟨G', ss', g', s', iv⟩
  obtain ⟨x, ht, h1, h2⟩ := hb m ss' iv
  refine ht H0 G' H' σ' g'.i s' _ fun G1 H1 g1 => ?_
  cases x with
  | true =>
    refine iteT ⟨fun σ' H' => ∃ m', m' < m ∧ ∃ G' ss', Grow G0 H0 G' H' ∧ Sls (wd X) H0 G' H' σ' ss' ∧ Iv m' ss', fun σ' H' z => z, ?_⟩
    exact h1 rfl G0 H0 G1 H1 σ' (g'.trans g1) (s'.grow g1) _ ⟨fun G3 H3 σ3 ss3 g3 s3 ⟨m', hm, iv3⟩ => ⟨m', hm, G3, ss3, g3, s3, iv3⟩, q.rt, q.nx, fun G3 H3 σ3 ss3 g3 s3 ⟨m', hm, iv3⟩ => ⟨m', hm, G3, ss3, g3, s3, iv3⟩⟩
  | false => exact iteF (q.nx G1 H1 σ' ss' (g'.trans g1) (s'.grow g1) (h2 rfl))
/-- x += e, x -= e -/
theorem ss_aug (i : Nat) {op : Operator} {fn : Int → Int → Int} {m n : Int} {x : Str} (ho : PIp X op (ipI fn)) (h0 : ss[i]? = some (.im (.int m))) (h : EE X ss e (.int n)) (k : P.nx (ss.set i (.im (.int (fn m n))))) (hN : X.N.Nodup) (hx : X.N[i]? = some x := by first | kernel_rfl! | rfl) (hl : Loc X.env.scope x := by first | exact Or.inl (by kernel_rfl!) | exact Or.inr (by kernel_rfl!) | exact Or.inl rfl | exact Or.inr rfl)
    (hf : X.fn x = true ∨ X.env.scope.names.lookup x = some .local := by first | exact .inl (by kernel_rfl!) | exact .inr (by kernel_rfl!) | exact .inl rfl | exact .inr rfl) : SS X ss (.AugAssign (.Name x p') op e pos) P := fun G0 H0 G H σ g s E q => by
  obtain ⟨v, e1, r⟩ := s.gim h0
  cases r
  exact wS.of (ps_aug hN hx hl pe_w ho hf) ⟨_, e1, h H0 G H σ g.i s _ fun v G1 H1 g1 r1 => by
    cases r1
    exact ⟨_, _, rfl, rfl, q.nx G1 H1 _ _ (g.trans g1) ((s.grow g1).im ((List.getElem?_eq_some_iff.mp h0).1) (.int _)) k⟩⟩
end
/-! ### a def by its body -/
def startS (n : Nat) (ds : List D) : List Slot := ds.map Slot.im ++ List.replicate (n - ds.length) .no
theorem start_at {W : Wd} {G H H0 : Hp} {N : List Str} {vs : List V} {ds : List D} (r : RpA W G vs ds) (hl : ds.length ≤ N.length) : Sls W H0 G H (L2.start N vs) (startS N.length ds) := by
  have hlv := r.length
  have fp0 : ∀ (i : Nat) s, (startS N.length ds)[i]? = some s → s.fp = [] := fun i s h => by
    unfold startS at h
    by_cases hi : i < ds.length
    · rw [List.getElem?_append_left (by simpa using hi), List.getElem?_map, List.getElem?_eq_getElem hi] at h
      cases h
      rfl
    · rw [List.getElem?_append_right (by simpa using hi)] at h
      have := List.mem_of_getElem? h
      rw [List.eq_of_mem_replicate this]
      rfl
  refine ⟨?_, fun i s h => ?_, fun i s h a ha => ?_, fun i s h => ?_, fun i j s t ne h1 h2 a ha => ?_⟩
  · simp only [L2.start, startS, List.length_append, List.length_map, List.length_replicate]
    omega
  · unfold startS at h
    by_cases hi : i < ds.length
    · rw [List.getElem?_append_left (by simpa using hi), List.getElem?_map, List.getElem?_eq_getElem hi] at h
      cases h
      obtain ⟨v, hv, rv⟩ := r.get (List.getElem?_eq_getElem hi)
      refine .inr ⟨v, ?_, rv⟩
      unfold L2.start
      rw [List.getElem?_append_left (by simpa [hlv] using hi), List.getElem?_map, hv]
      rfl
    · rw [List.getElem?_append_right (by simpa using hi)] at h
      have := List.mem_of_getElem? h
      exact .inl (List.eq_of_mem_replicate this)
  · rw [fp0 i s h] at ha
    cases ha
  · rw [fp0 i s h]
    exact List.nodup_nil
  · rw [fp0 i s h1] at ha
    cases ha
section
variable {P : Program} {w : World} {K : PySem.W.Frag} {mg : Str → Option Value} {base : Heap}
/-- data in, data out -/
theorem calP {x : Str} {st : Stmt} {f : Addr} {fd : FuncData} {N ps : List Str} {k : Nat} (T : List D → D → Prop) (F : C8.Def K mg x st f fd) (b : Binds K fd ps []) (S : FnScope N ps (C8.fnScope st)) (len : ∀ ds d, T ds d → ds.length = ps.length) (hpN : ps.length ≤ N.length)
    (hbody : ∀ (cdv : Value) (A : Around) (outer : List Env) (s : Shared) (H : Hp) (E : XK), Room k (A.deeper (envOfC x (C8.fnScope st) s.heap.objs.size f cdv)) → ∀ ds d, T ds d →
      SD (cxOf C8.CX0 P w K mg base N x (C8.fnScope st) f cdv A outer s H E).nox (startS N.length ds) (C8.fnBody st) { nx := fun _ => d = .non, rt := fun t _ => t = .im d }) : C8.Cal P w K mg base (k + 1) x (spP ⟨P, w, K⟩ T) [] := by
  refine C8.cal0 F b .nil S (fun vs H Q E h => ?_) (fun cdv A outer s H vs Q E hr h => ⟨wSs _ _, pss_w, ?_⟩)
  · obtain ⟨G, ds, d, i, r, t, _⟩ := h
    rw [r.length, len ds d t]
  · obtain ⟨G, ds, d, i, r, t, q⟩ := h
    have hl : ds.length ≤ N.length := by rw [len ds d t]; exact hpN
    refine hbody cdv A outer s H E hr ds d t G H G H (L2.start N vs) (.refl i) (start_at r hl) _ ⟨fun G1 H1 σ1 ss1 g1 s1 h1 => ?_, fun G1 H1 σ1 ss1 v1 t1 g1 s1 a1 a2 a3 a4 a5 => ?_, fun G1 H1 σ1 ss1 g1 s1 h1 => h1.elim, fun G1 H1 σ1 ss1 g1 s1 h1 => h1.elim⟩
    · have h1 : d = .non := h1
      subst h1
      exact q _ G1 H1 g1 .non
    · have a5 : t1 = .im d := a5
      subst a5
      exact q _ G1 H1 g1 a1
/-- data in, a new list out -/
theorem calO {x : Str} {st : Stmt} {f : Addr} {fd : FuncData} {N ps : List Str} {k : Nat} (T : List D → List D → Prop) (F : C8.Def K mg x st f fd) (b : Binds K fd ps []) (S : FnScope N ps (C8.fnScope st)) (len : ∀ ds d, T ds d → ds.length = ps.length) (hpN : ps.length ≤ N.length)
    (hbody : ∀ (cdv : Value) (A : Around) (outer : List Env) (s : Shared) (H : Hp) (E : XK), Room k (A.deeper (envOfC x (C8.fnScope st) s.heap.objs.size f cdv)) → ∀ ds d, T ds d →
      SD (cxOf C8.CX0 P w K mg base N x (C8.fnScope st) f cdv A outer s H E).nox (startS N.length ds) (C8.fnBody st) { nx := fun _ => False, rt := fun t _ => ∃ q, t = .ow q d }) : C8.Cal P w K mg base (k + 1) x (spO ⟨P, w, K⟩ T) [] := by
  refine C8.cal0 F b .nil S (fun vs H Q E h => ?_) (fun cdv A outer s H vs Q E hr h => ⟨wSs _ _, pss_w, ?_⟩)
  · obtain ⟨G, ds, d, i, r, t, _⟩ := h
    rw [r.length, len ds d t]
  · obtain ⟨G, ds, d, i, r, t, q⟩ := h
    have hl : ds.length ≤ N.length := by rw [len ds d t]; exact hpN
    refine hbody cdv A outer s H E hr ds d t G H G H (L2.start N vs) (.refl i) (start_at r hl) _ ⟨fun G1 H1 σ1 ss1 g1 s1 h1 => h1.elim, fun G1 H1 σ1 ss1 v1 t1 g1 s1 a1 a2 a3 a4 a5 => ?_, fun G1 H1 σ1 ss1 g1 s1 h1 => h1.elim, fun G1 H1 σ1 ss1 g1 s1 h1 => h1.elim⟩
    obtain ⟨p, rfl⟩ := a5
    obtain ⟨rfl, vs1, hp, r1⟩ := a1
    obtain ⟨n1, n2⟩ := a3 p (List.mem_singleton.mpr rfl)
    exact q p vs1 G1 H1 n2 g1 n1 hp r1
end
end Fw
namespace Fw
open PySem PySem.Spec PyProof.Rows L2
/-! ### attributes as targets -/
def gAttr (K : PySem.W.Frag) (to : TE) (f : Str) : TG := fun v σ H Q => to σ H fun o H1 => ∃ a C dx fs, o = .ref a ∧ H1 a = some (.ins C dx fs) ∧ Cls K C ∧ NoAttr K C f ∧ fs.length < 1000 ∧ Q σ (upd H1 a (.ins C dx (putF f v fs)))
theorem pg_attr {X : Cx} {o : Expr} {f : Str} {pos : Pos} {to : TE} (ho : PE X o to) : PG X (.Attribute o f pos) (gAttr X.K to f) := by
  refine ⟨fun pins s σ H v u Q I r h => ?_⟩
  rw [assign_Attribute]
  refine wpAny_bind (wpAny_holding (thn (ho.run pins s σ H _ I h) fun ov s1 ⟨x, H1, I1, r1, q1⟩ => ?_))
  obtain ⟨a, C, dx, fs, e, ea, c, n, l, q⟩ := q1
  subst e
  obtain rfl : ov = Value.ref a := r1
  refine wpAny_bind (wpAny_standAt (wpAny_bind (wpAny_holding (setattr_ok I1 ea c n l r fun s3 I3 => ?_))))
  exact wpAny_release ⟨σ, _, I3, q⟩
/-! ### owned objects -/
def putL (f : Str) (x : Fld) : List (Str × Fld) → List (Str × Fld)
  | [] => [(f, x)]
  | (g, y) :: r => if g = f then (g, x) :: r else (g, y) :: putL f x r
section
variable {W : Wd} {G H : Hp}
theorem putL_names (f : Str) (x : Fld) (v : V) : ∀ {fs : List (Str × Fld)} {vfs : List (Str × V)}, vfs.map (·.1) = fs.map (·.1) → (putF f v vfs).map (·.1) = (putL f x fs).map (·.1)
  | [], [], _ => rfl
  | [], _ :: _, h => by cases h
  | _ :: _, [], h => by cases h
  | (g, y) :: r, (g', u) :: q, h => by
    rw [List.map_cons, List.map_cons, List.cons.injEq] at h
    obtain ⟨h1, h2⟩ := h
    have h1 : g' = g := h1
    subst h1
    unfold putF putL
    by_cases e : g' = f
    · rw [if_pos e, if_pos e, List.map_cons, List.map_cons, h2]
    · rw [if_neg e, if_neg e, List.map_cons, List.map_cons, putL_names f x v h2]
theorem putL_at {f : Str} {x : Fld} {v : V} (hx : FldAt W G H v x) : ∀ {fs : List (Str × Fld)} {vfs : List (Str × V)}, vfs.map (·.1) = fs.map (·.1) → FldsAt W G H (vfs.map (·.2)) (fs.map (·.2)) → FldsAt W G H ((putF f v vfs).map (·.2)) ((putL f x fs).map (·.2))
  | [], [], _, _ => .cons hx .nil
  | [], _ :: _, h, _ => by cases h
  | _ :: _, [], h, _ => by cases h
  | (g, y) :: r, (g', u) :: q, h, a => by
    rw [List.map_cons, List.map_cons, List.cons.injEq] at h
    obtain ⟨h1, h2⟩ := h
    have h1 : g' = g := h1
    subst h1
    cases a with
    | cons a t =>
      unfold putF putL
      by_cases e : g' = f
      · rw [if_pos e, if_pos e]
        exact .cons hx t
      · rw [if_neg e, if_neg e]
        exact .cons a (putL_at hx h2 t)
theorem putL_len (f : Str) (x : Fld) : ∀ fs : List (Str × Fld), (putL f x fs).length ≤ fs.length + 1
  | [] => Nat.le_refl _
  | (g, y) :: r => by
    have ih := putL_len f x r
    unfold putL
    by_cases e : g = f
    · rw [if_pos e, List.length_cons, List.length_cons]; omega
    · rw [if_neg e, List.length_cons, List.length_cons]; omega
/-- what a field holds -/
theorem fldsAt_get {f : Str} : ∀ {fs : List (Str × Fld)} {vfs : List (Str × V)} {x : Fld}, vfs.map (·.1) = fs.map (·.1) → FldsAt W G H (vfs.map (·.2)) (fs.map (·.2)) → fs.lookup f = some x → ∃ v, vfs.lookup f = some v ∧ FldAt W G H v x
  | [], [], _, _, _, h => by cases h
  | [], _ :: _, _, h, _, _ => by cases h
  | _ :: _, [], _, h, _, _ => by cases h
  | (g, y) :: r, (g', u) :: q, x, h, a, hl => by
    rw [List.map_cons, List.map_cons, List.cons.injEq] at h
    obtain ⟨h1, h2⟩ := h
    have h1 : g' = g := h1
    subst h1
    cases a with
    | cons a t =>
      rw [List.lookup_cons] at hl ⊢
      cases e : (f == g') with
      | true =>
        rw [e] at hl
        cases hl
        exact ⟨u, rfl, a⟩
      | false =>
        rw [e] at hl
        exact fldsAt_get h2 t hl
theorem fps_putL_im (f : Str) (d : D) : ∀ (fs : List (Str × Fld)) (a : Addr), a ∈ (putL f (.im d) fs).flatMap (·.2.fp) → a ∈ fs.flatMap (·.2.fp)
  | [], a, h => by cases h
  | (g, y) :: r, a, h => by
    unfold putL at h
    by_cases e : g = f
    · rw [if_pos e, List.flatMap_cons] at h
      rw [List.flatMap_cons]
      exact List.mem_append_right _ h
    · rw [if_neg e, List.flatMap_cons] at h
      rw [List.flatMap_cons]
      rcases List.mem_append.mp h with z | z
      · exact List.mem_append_left _ z
      · exact List.mem_append_right _ (fps_putL_im f d r a z)
theorem nd_putL_im (f : Str) (d : D) : ∀ (fs : List (Str × Fld)), (fs.flatMap (·.2.fp)).Nodup → ((putL f (.im d) fs).flatMap (·.2.fp)).Nodup
  | [], _ => List.nodup_nil
  | (g, y) :: r, h => by
    rw [List.flatMap_cons, List.nodup_append] at h
    obtain ⟨h1, h2, h3⟩ := h
    unfold putL
    by_cases e : g = f
    · rw [if_pos e, List.flatMap_cons]
      exact h2
    · rw [if_neg e, List.flatMap_cons, List.nodup_append]
      exact ⟨h1, nd_putL_im f d r h2, fun a ha b hb => h3 a ha b (fps_putL_im f d r b hb)⟩
end
/-- an owned object changes -/
theorem Sls.mutO {W : Wd} {H0 G H : Hp} {σ : L2.St} {ss : List Slot} (s : Sls W H0 G H σ ss) {i : Nat} {p C dx : Addr} {fs fs' : List (Str × Fld)} {vfs' : List (Str × V)} (h : ss[i]? = some (.ob p C fs))
    (nm : vfs'.map (·.1) = fs'.map (·.1)) (at' : FldsAt W G H (vfs'.map (·.2)) (fs'.map (·.2))) (off : ∀ a ∈ (Slot.ob p C fs').fp, G a = none ∧ H0 a = none) (nd : (Slot.ob p C fs').fp.Nodup)
    (dj : ∀ (j : Nat) t, j ≠ i → ss[j]? = some t → ∀ a ∈ (Slot.ob p C fs').fp, a ∉ t.fp) : Sls W H0 G (upd H p (.ins C dx vfs')) σ (ss.set i (.ob p C fs')) := by
  obtain ⟨v, e, rfl, dx0, vfs, hp, _, _⟩ := s.got h (by intro z; cases z)
  have hil : i < ss.length := (List.getElem?_eq_some_iff.mp h).1
  have pn : p ∉ (fs'.map (·.2)).flatMap (·.fp) := by
    rw [← flat2]
    exact (List.nodup_cons.mp nd).1
  refine ⟨by rw [List.length_set, s.len], fun j t e' => ?_, fun j t e' a ha => ?_, fun j t e' => ?_, fun j k t u ne e1 e2 a ha hb => ?_⟩
  · rcases get_set e' with ⟨ej, et, _⟩ | ⟨ne, e'⟩
    · rw [ej, et]
      exact .inr ⟨_, e, rfl, dx, vfs', upd_same, nm, at'.keepBut pn⟩
    · rcases s.at_ j t e' with z | ⟨v', h1, h2⟩
      · exact .inl z
      · exact .inr ⟨v', h1, h2.keepBut (fun z => s.dj j i t _ ne e' h p z List.mem_cons_self) fun xs z => by rw [hp] at z; cases z⟩
  · rcases get_set e' with ⟨ej, et, _⟩ | ⟨ne, e'⟩
    · rw [et] at ha
      exact off a ha
    · exact s.off j t e' a ha
  · rcases get_set e' with ⟨ej, et, _⟩ | ⟨ne, e'⟩
    · rw [et]
      exact nd
    · exact s.nd j t e'
  · rcases get_set e1 with ⟨ej, et, _⟩ | ⟨n1, e1'⟩
    · rcases get_set e2 with ⟨ek, eu, _⟩ | ⟨n2, e2'⟩
      · exact ne (ej.trans ek.symm)
      · rw [et] at ha
        exact dj k u n2 e2' a ha hb
    · rcases get_set e2 with ⟨ek, eu, _⟩ | ⟨n2, e2'⟩
      · rw [eu] at hb
        exact dj j t n1 e1' a hb ha
      · exact s.dj j k t u ne e1' e2' a ha hb
/-- .. by one field that is known -/
theorem Sls.mutOim {W : Wd} {H0 G H : Hp} {σ : L2.St} {ss : List Slot} (s : Sls W H0 G H σ ss) {i : Nat} {p C : Addr} {fs : List (Str × Fld)} {d : D} {y : V} (f : Str) (h : ss[i]? = some (.ob p C fs)) (r : Rp W G y d) :
    ∃ dx vfs, H p = some (.ins C dx vfs) ∧ vfs.length = fs.length ∧ Sls W H0 G (upd H p (.ins C dx (putF f y vfs))) σ (ss.set i (.ob p C (putL f (.im d) fs))) := by
  obtain ⟨v, e, rfl, dx, vfs, hp, nm, at'⟩ := s.got h (by intro z; cases z)
  have nd := s.nd i _ h
  obtain ⟨nd1, nd2⟩ := List.nodup_cons.mp nd
  refine ⟨dx, vfs, hp, by simpa using congrArg List.length nm, s.mutO h (putL_names f (.im d) y nm) (putL_at (x := .im d) r nm at') (fun a ha => ?_) ?_ fun j t ne ht a ha hb => ?_⟩
  · rcases List.mem_cons.mp ha with z | z
    · rw [z]; exact s.off i _ h p List.mem_cons_self
    · exact s.off i _ h a (List.mem_cons_of_mem _ (fps_putL_im f d fs a z))
  · exact List.nodup_cons.mpr ⟨fun z => nd1 (fps_putL_im f d fs p z), nd_putL_im f d fs nd2⟩
  · refine s.dj j i t _ ne ht h a hb ?_
    rcases List.mem_cons.mp ha with z | z
    · rw [z]; exact List.mem_cons_self
    · exact List.mem_cons_of_mem _ (fps_putL_im f d fs a z)
section
variable {X : Cx} {ss : List Slot} {st : Stmt} {rest A B : List Stmt} {P : Post} {e a b c f tg it : Expr} {es : List Expr} {pos p2 p p' apos : Pos} {x : Str}
/-- x.f, x an owned object -/
theorem ee_fldO (i : Nat) {q C : Addr} {fs : List (Str × Fld)} {d : D} {f : Str} (hs : ss[i]? = some (.ob q C fs)) (hf : fs.lookup f = some (.im d)) (c : Cls X.K C) (n : NoAttr X.K C f) (hN : X.N[i]? = some x := by first | kernel_rfl! | rfl) (hv : Vis X.env.scope x := by first | exact Or.inl (by kernel_rfl!) | exact Or.inr (Or.inl (by kernel_rfl!)) | exact Or.inr (Or.inr (by kernel_rfl!)) | exact Or.inl rfl | exact Or.inr (Or.inl rfl) | exact Or.inr (Or.inr rfl)) (hd : (x == ("__debug__" : Str)) = false := by decide)
    (hcd : (x == ("__classdict__" : Str)) = false := by decide) (hb : attributeBase (.Name x p') f X.env (eval (.Name x p') X.env) = eval (.Name x p') X.env := by first | kernel_rfl! | rfl) : EE X ss (.Attribute (.Name x p') f pos) d := fun H0 G H σ i0 s Q k => by
  obtain ⟨v, e, rfl, dx, vfs, hp, nm, at'⟩ := s.got hs (by intro z; cases z)
  obtain ⟨y, hy, ry⟩ := fldsAt_get nm at' hf
  exact wE.of (pe_fld (pe_var hN hv hd hcd) hb) ⟨_, e, _, _, _, _, y, rfl, hp, c, n, hy, k y G H (.refl i0) ry⟩
/-- x.f = e -/
theorem ss_fld (i : Nat) {q C : Addr} {fs : List (Str × Fld)} {d : D} {f : Str} (hs : ss[i]? = some (.ob q C fs)) (h : EE X ss e d) (k : P.nx (ss.set i (.ob q C (putL f (.im d) fs)))) (c : Cls X.K C) (n : NoAttr X.K C f) (hl : fs.length < 1000 := by first | decide | exact of_decide_eq_true rfl) (hN : X.N[i]? = some x := by first | kernel_rfl! | rfl) (hv : Vis X.env.scope x := by first | exact Or.inl (by kernel_rfl!) | exact Or.inr (Or.inl (by kernel_rfl!)) | exact Or.inr (Or.inr (by kernel_rfl!)) | exact Or.inl rfl | exact Or.inr (Or.inl rfl) | exact Or.inr (Or.inr rfl)) (hd : (x == ("__debug__" : Str)) = false := by decide)
    (hcd : (x == ("__classdict__" : Str)) = false := by decide) (hsw : swapsWith e (some (.Attribute (.Name x p') f apos)) pos.line X.env = pure false := by first | kernel_rfl! | rfl) : SS X ss (.Assign [.Attribute (.Name x p') f apos] e pos) P := fun G0 H0 G H σ g s E z => by
  refine wS.of (ps_fld (pe_var hN hv hd hcd) pe_w hsw) (h H0 G H σ g.i s _ fun y G1 H1 g1 r1 => ?_)
  have s1 := s.grow g1
  obtain ⟨v, e, hvv, dx0, vfs0, hp0, _⟩ := s1.got hs (by intro z; cases z)
  subst hvv
  obtain ⟨dx, vfs, hp, hln, s2⟩ := s1.mutOim f hs r1
  obtain ⟨n1, n2⟩ := s1.off i _ hs q List.mem_cons_self
  exact ⟨_, e, _, _, _, _, rfl, hp, c, n, by rw [hln]; exact hl, z.nx G1 _ σ _ ((g.trans g1).mutE n1 n2) s2 k⟩
/-- x.f = a new list -/
theorem fps_putL_ow (f : Str) (q : Addr) (ds : List D) : ∀ (fs : List (Str × Fld)) (a : Addr), a ∈ (putL f (.ow q ds) fs).flatMap (·.2.fp) → a = q ∨ a ∈ fs.flatMap (·.2.fp)
  | [], a, h => by
    left
    simpa [putL, Fld.fp] using h
  | (g, y) :: r, a, h => by
    unfold putL at h
    by_cases e : g = f
    · rw [if_pos e, List.flatMap_cons] at h
      rcases List.mem_append.mp h with z | z
      · left
        simpa [Fld.fp] using z
      · right
        rw [List.flatMap_cons]
        exact List.mem_append_right _ z
    · rw [if_neg e, List.flatMap_cons] at h
      rw [List.flatMap_cons]
      rcases List.mem_append.mp h with z | z
      · exact .inr (List.mem_append_left _ z)
      · rcases fps_putL_ow f q ds r a z with z | z
        · exact .inl z
        · exact .inr (List.mem_append_right _ z)
theorem nd_putL_ow (f : Str) (q : Addr) (ds : List D) : ∀ (fs : List (Str × Fld)), (fs.flatMap (·.2.fp)).Nodup → q ∉ fs.flatMap (·.2.fp) → ((putL f (.ow q ds) fs).flatMap (·.2.fp)).Nodup
  | [], _, _ => by simp [putL, Fld.fp]
  | (g, y) :: r, h, hq => by
    rw [List.flatMap_cons, List.nodup_append] at h
    obtain ⟨h1, h2, h3⟩ := h
    rw [List.flatMap_cons, List.mem_append] at hq
    unfold putL
    by_cases e : g = f
    · rw [if_pos e, List.flatMap_cons, List.nodup_append]
      refine ⟨by simp [Fld.fp], h2, fun a ha b hb z => hq (.inr ?_)⟩
      have : a = q := by simpa [Fld.fp] using ha
      rw [← this, z]
      exact hb
    · rw [if_neg e, List.flatMap_cons, List.nodup_append]
      refine ⟨h1, nd_putL_ow f q ds r h2 fun z => hq (.inr z), fun a ha b hb z => ?_⟩
      rcases fps_putL_ow f q ds r b hb with y' | y'
      · exact hq (.inl (by rw [← y', ← z]; exact ha))
      · exact h3 a ha b y' z
theorem ss_fldO (i : Nat) {q C : Addr} {fs : List (Str × Fld)} {ds : List D} {f : Str} (hs : ss[i]? = some (.ob q C fs)) (h : EO X ss e ds) (k : ∀ l, P.nx (ss.set i (.ob q C (putL f (.ow l ds) fs)))) (c : Cls X.K C) (n : NoAttr X.K C f) (hl : fs.length < 1000 := by first | decide | exact of_decide_eq_true rfl) (hN : X.N[i]? = some x := by first | kernel_rfl! | rfl) (hv : Vis X.env.scope x := by first | exact Or.inl (by kernel_rfl!) | exact Or.inr (Or.inl (by kernel_rfl!)) | exact Or.inr (Or.inr (by kernel_rfl!)) | exact Or.inl rfl | exact Or.inr (Or.inl rfl) | exact Or.inr (Or.inr rfl)) (hd : (x == ("__debug__" : Str)) = false := by decide)
    (hcd : (x == ("__classdict__" : Str)) = false := by decide) (hsw : swapsWith e (some (.Attribute (.Name x p') f apos)) pos.line X.env = pure false := by first | kernel_rfl! | rfl) : SS X ss (.Assign [.Attribute (.Name x p') f apos] e pos) P := fun G0 H0 G H σ g s E z => by
  refine wS.of (ps_fld (pe_var hN hv hd hcd) pe_w hsw) (h H0 G H σ g.i s _ fun l vs G1 H1 hn g1 hg1 hl1 r1 => ?_)
  have s1 := s.grow g1
  obtain ⟨v, e, rfl, dx, vfs, hp, nm, at'⟩ := s1.got hs (by intro z; cases z)
  obtain ⟨n1, n2⟩ := s1.off i _ hs q List.mem_cons_self
  have nd := s.nd i _ hs
  obtain ⟨nd1, nd2⟩ := List.nodup_cons.mp nd
  have fr := s.fresh hn
  have ql : l ≠ q := fun z => fr i _ hs (by rw [z]; exact List.mem_cons_self)
  have lfs : l ∉ fs.flatMap (·.2.fp) := fun z => fr i _ hs (List.mem_cons_of_mem _ z)
  have s2 := s1.mutO (dx := dx) hs (putL_names f (.ow l ds) (.ref l) nm) (putL_at (x := .ow l ds) ⟨rfl, vs, hl1, r1⟩ nm at') (fun a ha => by
      rcases List.mem_cons.mp ha with z | z
      · rw [z]; exact ⟨n1, n2⟩
      · rcases fps_putL_ow f l ds fs a z with z | z
        · rw [z]; exact ⟨hg1, g.h.back hn⟩
        · exact s1.off i _ hs a (List.mem_cons_of_mem _ z)) (List.nodup_cons.mpr ⟨fun z => (fps_putL_ow f l ds fs q z).elim (fun z => ql z.symm) nd1, nd_putL_ow f l ds fs nd2 lfs⟩) (fun j t ne ht a ha hb => by
      rcases List.mem_cons.mp ha with z | z
      · exact s1.dj j i t _ ne ht hs a hb (by rw [z]; exact List.mem_cons_self)
      · rcases fps_putL_ow f l ds fs a z with z | z
        · exact fr j t ht (by rw [← z]; exact hb)
        · exact s1.dj j i t _ ne ht hs a hb (List.mem_cons_of_mem _ z))
  exact ⟨_, e, _, _, _, _, rfl, hp, c, n, by rw [show vfs.length = fs.length from by simpa using congrArg List.length nm]; exact hl, z.nx G1 _ σ _ ((g.trans g1).mutE n1 n2) s2 (k l)⟩
/-- attributes of an owned object as the targets of a tuple -/
inductive AttrTs (x : Str) (C : Addr) (K : PySem.W.Frag) : List Expr → List Str → Prop
  | nil : AttrTs x C K [] []
  | cons {f : Str} {p q : Pos} {es : List Expr} {fs : List Str} : NoAttr K C f → AttrTs x C K es fs → AttrTs x C K (.Attribute (.Name x p) f q :: es) (f :: fs)
def putLs : List Str → List D → List (Str × Fld) → List (Str × Fld)
  | f :: ns, d :: ds, fs => putLs ns ds (putL f (.im d) fs)
  | _, _, fs => fs
theorem attrs_go (i : Nat) {q C : Addr} {H0 : Hp} (c : Cls X.K C) (hN : X.N[i]? = some x) (hv : Vis X.env.scope x) (hd : (x == ("__debug__" : Str)) = false) (hcd : (x == ("__classdict__" : Str)) = false) :
    ∀ {es : List Expr} {ns : List Str}, AttrTs x C X.K es ns → ∀ {ds : List D} {ss : List Slot} {fs : List (Str × Fld)} {G0 G H : Hp} {σ : L2.St} {vs : List V} {Q : L2.St → Hp → Prop}, ds.length = ns.length → ss[i]? = some (.ob q C fs) → fs.length + ns.length < 1000 → Grow G0 H0 G H → Sls (wd X) H0 G H σ ss → RpA (wd X) G vs ds →
      (∀ H', Grow G0 H0 G H' → Sls (wd X) H0 G H' σ (ss.set i (.ob q C (putLs ns ds fs))) → Q σ H') → wGs X es vs σ H Q
  | _, _, .nil, ds, ss, fs, G0, G, H, σ, vs, Q, hl, hs, hf, g, s, r, k => by
    have : ds = [] := List.length_eq_zero_iff.mp hl
    subst this
    cases r
    refine wGs.of pgs_nil ⟨rfl, k H g ?_⟩
    have e : ss.set i (.ob q C (putLs [] [] fs)) = ss := by
      obtain ⟨h1, h2⟩ := List.getElem?_eq_some_iff.mp hs
      show ss.set i (.ob q C fs) = ss
      rw [← h2]
      exact List.set_getElem_self h1
    rw [e]
    exact s
  | _, _, .cons (f := f) (fs := ns) n t, ds, ss, fs, G0, G, H, σ, vs, Q, hl, hs, hf, g, s, r, k => by
    cases r with
    | nil => cases hl
    | cons r1 rt =>
      refine wGs.of (pgs_cons (pg_attr (pe_var hN hv hd hcd)) pgs_w rfl) ⟨_, _, rfl, ?_⟩
      obtain ⟨v, e, hvv, dx0, vfs0, hp0, _⟩ := s.got hs (by intro z; cases z)
      subst hvv
      obtain ⟨dx, vfs, hp, hln, s2⟩ := s.mutOim f hs r1
      obtain ⟨n1, n2⟩ := s.off i _ hs q List.mem_cons_self
      refine ⟨_, e, _, _, _, _, rfl, hp, c, n, by rw [hln]; omega, ?_⟩
      have hil : i < ss.length := (List.getElem?_eq_some_iff.mp hs).1
      refine attrs_go i c hN hv hd hcd t (by simpa using hl) (List.getElem?_set_self hil) (Nat.lt_of_le_of_lt (Nat.add_le_add_right (putL_len f _ fs) _) (by rw [List.length_cons] at hf; omega)) (g.mutE n1 n2) s2 rt fun H' g' s' => k H' g' ?_
      rw [List.set_set] at s'
      exact s'
theorem ss_attrs (i : Nat) {q C : Addr} {fs : List (Str × Fld)} {ds : List D} {ns : List Str} {kk : Nat} {tpos : Pos} (hs : ss[i]? = some (.ob q C fs)) (h : EE X ss e (.tup ds)) (ht : AttrTs x C X.K es ns) (hl : ds.length = ns.length) (k : P.nx (ss.set i (.ob q C (putLs ns ds fs)))) (c : Cls X.K C) (hf : fs.length + ns.length < 1000 := by first | decide | exact of_decide_eq_true rfl) (hN : X.N[i]? = some x := by first | kernel_rfl! | rfl) (hv : Vis X.env.scope x := by first | exact Or.inl (by kernel_rfl!) | exact Or.inr (Or.inl (by kernel_rfl!)) | exact Or.inr (Or.inr (by kernel_rfl!)) | exact Or.inl rfl | exact Or.inr (Or.inl rfl) | exact Or.inr (Or.inr rfl)) (hd : (x == ("__debug__" : Str)) = false := by decide)
    (hcd : (x == ("__classdict__" : Str)) = false := by decide) (hc : X.calm = true := by first | kernel_rfl! | rfl) (hn : (assignEach es X.env).length = ds.length := by first | kernel_rfl! | rfl) (hst : (assignEach es X.env).findIdx? (·.1) = none := by first | kernel_rfl! | rfl)
    (hsw : swapsWithSole [.Tuple es kk tpos] e pos.line X.env = pure false := by first | kernel_rfl! | rfl) (hw : swappedStores [.Tuple es kk tpos] e X.env = pure none := by first | kernel_rfl! | rfl)
    (h1 : (assignEach [.Tuple es kk tpos] X.env).map (·.2) = [assign (.Tuple es kk tpos) X.env] := by first | kernel_rfl! | rfl) : SS X ss (.Assign [.Tuple es kk tpos] e pos) P := fun G0 H0 G H σ g s E z =>
  wS.of (ps_asg pe_w (pg_tup hc pgs_w hn hst) hsw hw h1) (h H0 G H σ g.i s _ fun v G1 H1 g1 r1 => by
    cases r1 with
    | tup w r => exact ⟨_, _, rfl, g1.i.t w, r.length, attrs_go i c hN hv hd hcd ht hl hs hf (g.trans g1) (s.grow g1) r fun H' g' s' => z.nx _ H' σ _ g' s' k⟩)
/-- x.f += e, x.f -= e -/
theorem ss_fldaug (i : Nat) {q C : Addr} {fs : List (Str × Fld)} {m n : Int} {op : Operator} {fn : Int → Int → Int} {rd : V → V → Hp → VK → Prop} {f : Str} (hop : InOp X op rd) (hrd : ∀ m n H Q, Q (.int (fn m n)) H → rd (.int m) (.int n) H Q) (hs : ss[i]? = some (.ob q C fs)) (hf : fs.lookup f = some (.im (.int m))) (h : EE X ss e (.int n)) (k : P.nx (ss.set i (.ob q C (putL f (.im (.int (fn m n))) fs)))) (c : Cls X.K C) (na : NoAttr X.K C f) (hl : fs.length < 1000 := by first | decide | exact of_decide_eq_true rfl) (hN : X.N[i]? = some x := by first | kernel_rfl! | rfl) (hv : Vis X.env.scope x := by first | exact Or.inl (by kernel_rfl!) | exact Or.inr (Or.inl (by kernel_rfl!)) | exact Or.inr (Or.inr (by kernel_rfl!)) | exact Or.inl rfl | exact Or.inr (Or.inl rfl) | exact Or.inr (Or.inr rfl)) (hd : (x == ("__debug__" : Str)) = false := by decide)
    (hcd : (x == ("__classdict__" : Str)) = false := by decide) : SS X ss (.AugAssign (.Attribute (.Name x p') f apos) op e pos) P := fun G0 H0 G H σ g s E z => by
  obtain ⟨v, e, rfl, dx, vfs, hp, nm, at'⟩ := s.got hs (by intro z; cases z)
  obtain ⟨y, hy, ry⟩ := fldsAt_get nm at' hf
  cases ry
  refine wS.of (ps_fldaug (pe_var hN hv hd hcd) pe_w hop) ⟨_, e, _, _, _, _, _, rfl, hp, c, na, hy, h H0 G H σ g.i s _ fun y G1 H1 g1 r1 => ?_⟩
  cases r1
  refine hrd _ _ _ _ ?_
  have s1 := s.grow g1
  obtain ⟨dx1, vfs1, hp1, hln, s2⟩ := s1.mutOim f hs (Rp.int (fn m n))
  obtain ⟨n1, n2⟩ := s1.off i _ hs q List.mem_cons_self
  exact ⟨_, _, hp1, by rw [hln]; exact hl, z.nx G1 _ σ _ ((g.trans g1).mutE n1 n2) s2 k⟩
end
end Fw
namespace Fw
open PySem PySem.Spec PyProof.Rows L2
/-! ### an owned object becomes known -/
def Fld.toD : Fld → D
  | .im d => d
  | .ow _ ds => .lst ds
def frzD (C : Addr) (fs : List (Str × Fld)) : D := .ins C (fs.map (·.1)) (fs.map fun f => f.2.toD)
section
variable {W : Wd} {G H H0 G0 : Hp}
theorem Ex.but {G H : Hp} (e : Ex G H) {p : Addr} {o : HO} (n : G p = none) (h : H p = some o) : Ex (upd G p o) H := fun a u q => by
  by_cases z : a = p
  · subst z
    rw [upd_same] at q
    cases q
    exact h
  · rw [upd_ne z] at q
    exact e a u q
/-- fields: all their lists become known -/
theorem FldsAt.know : ∀ {vs : List V} {fs : List Fld} {G : Hp}, FldsAt W G H vs fs → Grow G0 H0 G H → (∀ a ∈ fs.flatMap (·.fp), G a = none ∧ H0 a = none) → (fs.flatMap (·.fp)).Nodup → ∃ G', Grow G0 H0 G' H ∧ Ex G G' ∧ RpA W G' vs (fs.map Fld.toD) ∧ ∀ a o, G' a = some o → G a = some o ∨ a ∈ fs.flatMap (·.fp)
  | _, _, G, .nil, g, _, _ => ⟨G, g, .refl _, .nil, fun _ _ h => .inl h⟩
  | _, _, G, .cons (v := v) (vs := vs) (f := f) (fs := fs) x t, g, off, nd => by
    rw [List.flatMap_cons, List.nodup_append] at nd
    obtain ⟨nd1, nd2, nd3⟩ := nd
    cases f with
    | im d =>
      obtain ⟨G', g', e', r', n'⟩ := FldsAt.know t g (fun a ha => off a (by rw [List.flatMap_cons]; exact List.mem_append_right _ ha)) nd2
      exact ⟨G', g', e', .cons (Rp.up x e') r', fun a o h => (n' a o h).imp id fun z => by rw [List.flatMap_cons]; exact List.mem_append_right _ z⟩
    | ow p ds =>
      obtain ⟨e, us, hp, r⟩ := x
      subst e
      have hpm : p ∈ (Fld.ow p ds).fp := List.mem_singleton.mpr rfl
      obtain ⟨n1, n2⟩ := off p (by rw [List.flatMap_cons]; exact List.mem_append_left _ hpm)
      have g1 := g.know n2 hp
      obtain ⟨G', g', e', r', n'⟩ := FldsAt.know (G := upd G p (.lst us)) (t.mono (Ex.new n1) (.refl _)) g1 (fun a ha => by
        obtain ⟨m1, m2⟩ := off a (by rw [List.flatMap_cons]; exact List.mem_append_right _ ha)
        refine ⟨?_, m2⟩
        rw [upd_ne fun z => nd3 p hpm a ha z.symm]
        exact m1) nd2
      refine ⟨G', g', (Ex.new n1).trans e', .cons (.lst (e' _ _ upd_same) (r.up ((Ex.new n1).trans e'))) r', fun a o h => ?_⟩
      rw [List.flatMap_cons]
      rcases n' a o h with z | z
      · by_cases y : a = p
        · exact .inr (List.mem_append_left _ (by rw [y]; exact hpm))
        · rw [upd_ne y] at z
          exact .inl z
      · exact .inr (List.mem_append_right _ z)
/-- the whole -/
theorem frz_at {p C : Addr} {fs : List (Str × Fld)} {v : V} (g : Grow G0 H0 G H) (h : SlotAt W G H v (.ob p C fs)) (off : ∀ a ∈ (Slot.ob p C fs).fp, G a = none ∧ H0 a = none) (nd : (Slot.ob p C fs).fp.Nodup) :
    ∃ G', Grow G0 H0 G' H ∧ Ex G G' ∧ Rp W G' v (frzD C fs) ∧ ∀ a o, G' a = some o → G a = some o ∨ a ∈ (Slot.ob p C fs).fp := by
  obtain ⟨rfl, dx, vfs, hp, nm, at'⟩ := h
  obtain ⟨nd1, nd2⟩ := List.nodup_cons.mp nd
  have nd2' : ((fs.map (·.2)).flatMap (·.fp)).Nodup := by rw [← flat2]; exact nd2
  obtain ⟨G', g', e', r', n'⟩ := FldsAt.know at' g (fun a ha => off a (List.mem_cons_of_mem _ (by rw [flat2]; exact ha))) nd2'
  obtain ⟨n1, n2⟩ := off p List.mem_cons_self
  have n3 : G' p = none := by
    cases q : G' p with
    | none => rfl
    | some o =>
      rcases n' p o q with z | z
      · rw [n1] at z; cases z
      · exact absurd (by rw [flat2]; exact z) nd1
  refine ⟨upd G' p (.ins C dx vfs), g'.know n2 hp, e'.trans (Ex.new n3), .ins upd_same nm ?_, fun a o h => ?_⟩
  · have := r'.up (Ex.new (o := .ins C dx vfs) n3)
    rw [List.map_map] at this
    exact this
  · by_cases y : a = p
    · exact .inr (by rw [y]; exact List.mem_cons_self)
    · rw [upd_ne y] at h
      rcases n' a o h with z | z
      · exact .inl z
      · exact .inr (List.mem_cons_of_mem _ (by rw [flat2]; exact z))
/-- .. and then the other slots stay as they are -/
theorem Sls.frz {σ : L2.St} {ss : List Slot} (g : Grow G0 H0 G H) (s : Sls W H0 G H σ ss) {i : Nat} {p C : Addr} {fs : List (Str × Fld)} (h : ss[i]? = some (.ob p C fs)) :
    ∃ G', Grow G0 H0 G' H ∧ Sls W H0 G' H σ (ss.set i (.im (frzD C fs))) := by
  obtain ⟨v, e, at'⟩ := s.got h (by intro z; cases z)
  obtain ⟨G', g', e', r', n'⟩ := frz_at g at' (s.off i _ h) (s.nd i _ h)
  refine ⟨G', g', ⟨by rw [List.length_set, s.len], fun j t e2 => ?_, fun j t e2 a ha => ?_, fun j t e2 => ?_, fun j k t u ne e1 e2 a ha hb => ?_⟩⟩
  · rcases get_set e2 with ⟨ej, et, _⟩ | ⟨ne, e2⟩
    · rw [ej, et]
      exact .inr ⟨v, e, r'⟩
    · rcases s.at_ j t e2 with z | ⟨v', h1, h2⟩
      · exact .inl z
      · exact .inr ⟨v', h1, h2.mono e' (.refl _)⟩
  · rcases get_set e2 with ⟨ej, et, _⟩ | ⟨ne, e2⟩
    · rw [et] at ha
      cases ha
    · obtain ⟨m1, m2⟩ := s.off j t e2 a ha
      refine ⟨?_, m2⟩
      cases q : G' a with
      | none => rfl
      | some o =>
        rcases n' a o q with z | z
        · rw [m1] at z; cases z
        · exact absurd z (s.dj j i t _ ne e2 h a ha)
  · rcases get_set e2 with ⟨ej, et, _⟩ | ⟨ne, e2⟩
    · rw [et]
      exact List.nodup_nil
    · exact s.nd j t e2
  · rcases get_set e1 with ⟨ej, et, _⟩ | ⟨n1, e1'⟩
    · rw [et] at ha
      cases ha
    · rcases get_set e2 with ⟨ek, eu, _⟩ | ⟨n2, e2'⟩
      · rw [eu] at hb
        cases hb
      · exact s.dj j k t u ne e1' e2' a ha hb
end
theorem sd_frz {X : Cx} {ss : List Slot} {rest : List Stmt} {P : Post} (i : Nat) {p C : Addr} {fs : List (Str × Fld)} (h : ss[i]? = some (.ob p C fs)) (k : SD X (ss.set i (.im (frzD C fs))) rest P) : SD X ss rest P := fun G0 H0 G H σ g s E q => by
  obtain ⟨G', g', s'⟩ := Sls.frz g s h
  exact k G0 H0 G' H σ g' s' E q
/-! ### a class that is made -/
/-- what an __init__ promises: the fields of the object -/
def spI (W : Wd) (C : Addr) (T : List D → (List (Str × Fld) → Prop) → Prop) : Sp := fun vs H Q _ => ∃ H1 G ds x dx us R, vs = .ref x :: us ∧ H1 x = none ∧ H1 dx = none ∧ dx ≠ x ∧ H = upd (upd H1 dx (.own x)) x (.ins C dx []) ∧ Ex G H1 ∧ RpA W G us ds ∧ T ds R ∧
  ∀ fs G' H', R fs → Grow G H1 G' H' → SlotAt W G' H' (.ref x) (.ob x C fs) → (∀ a ∈ (Slot.ob x C fs).fp, G' a = none ∧ H1 a = none) → (Slot.ob x C fs).fp.Nodup → Q .non H'
section
variable {P : Program} {w : World} {K : PySem.W.Frag} {mg : Str → Option Value} {base : Heap}
theorem Sls.self {W : Wd} {H0 G H : Hp} {σ : L2.St} {ss : List Slot} {p C : Addr} {fs : List (Str × Fld)} {v : V} (s : Sls W H0 G H σ ss) (hv : SlotAt W G H v (.ob p C fs)) (hs : ss[0]? = some .no) (h0 : σ[0]? = some (some v)) (off : ∀ a ∈ (Slot.ob p C fs).fp, G a = none ∧ H0 a = none) (nd : (Slot.ob p C fs).fp.Nodup)
    (dj : ∀ (j : Nat) t, ss[j]? = some t → t.fp = []) : Sls W H0 G H σ (ss.set 0 (.ob p C fs)) := by
  have hl : 0 < ss.length := (List.getElem?_eq_some_iff.mp hs).1
  have e : σ.set 0 (some v) = σ := by
    obtain ⟨h1, h2⟩ := List.getElem?_eq_some_iff.mp h0
    rw [← h2]
    exact List.set_getElem_self h1
  have := s.put hl (.inr hv) off nd fun j t _ ht a ha hb => by rw [dj j t ht] at hb; cases hb
  rw [e] at this
  exact this
/-- an __init__ by its body -/
theorem makI {x qual : Str} {C : Addr} {st : Stmt} {f : Addr} {fd : FuncData} {N ps : List Str} {k : Nat} (T : List D → (List (Str × Fld) → Prop) → Prop) (M : Mk K C f) (hm : mg x = some (.ref C)) (F : C8.Fun K "__init__" qual st f fd) (b : Binds K fd ps []) (S : FnScope N ps (C8.fnScope st)) (len : ∀ ds R, T ds R → ds.length + 1 = ps.length) (hpN : ps.length ≤ N.length)
    (hbody : ∀ (cdv : Value) (A : Around) (outer : List Env) (s : Shared) (H : Hp) (E : XK), Room k (A.deeper (envOfC qual (C8.fnScope st) s.heap.objs.size f cdv)) → ∀ (p : Addr) ds R, T ds R →
      SD (cxOf C8.CX0 P w K mg base N qual (C8.fnScope st) f cdv A outer s H E).nox ((Slot.ob p C [] :: ds.map Slot.im) ++ List.replicate (N.length - (ds.length + 1)) .no) (C8.fnBody st) { nx := fun ss' => ∃ fs, ss'[0]? = some (.ob p C fs) ∧ R fs, rt := fun _ _ => False }) : C8.Mak P w K mg base (k + 1) x C (spI ⟨P, w, K⟩ C T) [] := by
  refine C8.mak0 M hm F b .nil S (fun vs H Q E h => ?_) (fun cdv A outer s H vs Q E hr h => ⟨wSs _ _, pss_w, ?_⟩)
  · obtain ⟨H1, G, ds, x, dx, us, R, rfl, _, _, _, _, _, r, t, _⟩ := h
    rw [List.length_cons, r.length, len ds R t]
  · obtain ⟨H1, G, ds, x, dx, us, R, rfl, h1, h2, h3, rfl, i, r, hT, q⟩ := h
    have hl : ds.length + 1 ≤ N.length := by
      rw [len ds R hT]
      exact hpN
    have hx : (upd H1 dx (.own x)) x = none := by rw [upd_ne (Ne.symm h3)]; exact h1
    have g : Grow G H1 G (upd (upd H1 dx (.own x)) x (.ins C dx [])) := (Grow.hid i h2).trans (Grow.hid (i.trans (Ex.new h2)) hx)
    have s0 : Sls ⟨P, w, K⟩ H1 G (upd (upd H1 dx (.own x)) x (.ins C dx [])) (L2.start N (.ref x :: us)) (((startS N.length (.non :: ds))).set 0 .no) := by
      have z : Sls ⟨P, w, K⟩ H1 G (upd (upd H1 dx (.own x)) x (.ins C dx [])) (L2.start N (.non :: us)) (startS N.length (.non :: ds)) := start_at (.cons .non r) (by rw [List.length_cons]; exact hl)
      have := z.drop (i := 0) (o := some (.ref x))
      have e : (L2.start N (.non :: us)).set 0 (some (.ref x)) = L2.start N (.ref x :: us) := rfl
      rw [e] at this
      exact this
    have e0 : (startS N.length (.non :: ds)).set 0 .no = .no :: (startS N.length (.non :: ds)).drop 1 := rfl
    have fp0 : ∀ (j : Nat) t, ((startS N.length (.non :: ds)).set 0 .no)[j]? = some t → t.fp = [] := fun j t ht => by
      rcases get_set ht with ⟨_, rfl, _⟩ | ⟨_, ht⟩
      · rfl
      · have := List.mem_of_getElem? ht
        unfold startS at this
        rcases List.mem_append.mp this with z | z
        · obtain ⟨d, _, rfl⟩ := List.mem_map.mp z
          rfl
        · rw [List.eq_of_mem_replicate z]
          rfl
    have s1 := s0.self (p := x) (C := C) (fs := []) (v := .ref x) ⟨rfl, dx, [], upd_same, rfl, .nil⟩ (by rw [e0]; rfl) rfl (fun a ha => by
      have : a = x := List.mem_singleton.mp ha
      rw [this]
      exact ⟨i.back h1, h1⟩) (by simp [Slot.fp]) fp0
    have e1 : (((startS N.length (.non :: ds)).set 0 .no).set 0 (.ob x C [])) = (Slot.ob x C [] :: ds.map Slot.im) ++ List.replicate (N.length - (ds.length + 1)) .no := rfl
    rw [e1] at s1
    refine hbody cdv A outer s _ E hr x ds R hT G H1 G _ _ g s1 _ ⟨fun G2 H2 σ2 ss2 g2 s2 h2 => ?_, fun G1 H1 σ1 ss1 v1 t1 g1 s1 a1 a2 a3 a4 a5 => a5.elim, fun G1 H1 σ1 ss1 g1 s1 h1 => h1.elim, fun G1 H1 σ1 ss1 g1 s1 h1 => h1.elim⟩
    obtain ⟨fs, hs, t⟩ := h2
    obtain ⟨v, _, at'⟩ := s2.got hs (by intro z; cases z)
    have ev : v = .ref x := at'.1
    rw [ev] at at'
    exact q fs G2 H2 t g2 at' (s2.off 0 _ hs) (s2.nd 0 _ hs)
end
section
variable {X : Cx} {ss : List Slot} {e : Expr} {es : List Expr} {pos p p' p2 : Pos} {x : Str} {k j : Nat} {C : Addr} {T : List D → (List (Str × Fld) → Prop) → Prop} {R : List (Str × Fld) → Prop} {P : Post}
/-- C(..): a new object, known at once; all its results look the same -/
theorem ee_make {ds : List D} {d : D} (c : C8.Mak X.prog X.w X.K X.mg X.base k x C (spI (wd X) C T) []) (hr : Room j X.A) (hk : k + 1 ≤ j) (ha : EA X ss (e :: es) ds) (hT : T ds R) (hd : ∀ fs, R fs → frzD C fs = d) (hg : Gl X x := by first | kernel_rfl! | rfl) (hdb : (x == ("__debug__" : Str)) = false := by decide)
    (he : starEach (e :: es) X.env = (false, eval e X.env) :: starEach es X.env := by first | kernel_rfl! | rfl) (hpl : (backTo pos (starEach es X.env)).any (·.1) = false := by first | kernel_rfl! | rfl) : EE X ss (.Call (.Name x p) (e :: es) [] pos) d := fun H0 G H σ i s Q q =>
  wE.of (C8.pe_mk c hr hk hg pa_w hdb he hpl) (ha H0 G H σ i s _ fun vs G1 H1 g1 r1 y dx h1 h2 h3 => ⟨H1, G1, ds, y, dx, vs, R, by rw [List.append_nil], h1, h2, h3, rfl, g1.i, r1, hT, fun fs G' H' t g a o nd => by
    obtain ⟨G2, g2, _, r2, _⟩ := frz_at g a o nd
    refine ⟨rfl, q _ G2 H' (g1.trans g2) ?_⟩
    rw [← hd fs t]
    exact r2⟩)
/-- y = C(..): an owned object -/
theorem ss_asgM (i : Nat) {ds : List D} {y : Str} (c : C8.Mak X.prog X.w X.K X.mg X.base k x C (spI (wd X) C T) []) (hr : Room j X.A) (hk : k + 1 ≤ j) (ha : EA X ss (e :: es) ds) (hT : T ds R) (kk : ∀ q fs, R fs → P.nx (ss.set i (.ob q C fs))) (hN : X.N.Nodup) (hi : (ss[i]?).isSome = true := by first | kernel_rfl! | rfl) (hx : X.N[i]? = some y := by first | kernel_rfl! | rfl) (hl : Loc X.env.scope y := by first | exact Or.inl (by kernel_rfl!) | exact Or.inr (by kernel_rfl!) | exact Or.inl rfl | exact Or.inr rfl)
    (hs : swapsWith (.Call (.Name x p) (e :: es) [] p2) (some (.Name y p')) pos.line X.env = pure false := by first | kernel_rfl! | rfl) (hf : X.fn y = true ∨ X.env.scope.names.lookup y = some .local := by first | exact .inl (by kernel_rfl!) | exact .inr (by kernel_rfl!) | exact .inl rfl | exact .inr rfl) (hg : Gl X x := by first | kernel_rfl! | rfl) (hdb : (x == ("__debug__" : Str)) = false := by decide)
    (he : starEach (e :: es) X.env = (false, eval e X.env) :: starEach es X.env := by first | kernel_rfl! | rfl) (hpl : (backTo p2 (starEach es X.env)).any (·.1) = false := by first | kernel_rfl! | rfl) : SS X ss (.Assign [.Name y p'] (.Call (.Name x p) (e :: es) [] p2) pos) P := fun G0 H0 G H σ g s E z =>
  wS.of (ps_set hN hx hl pe_w hs hf) (wE.of (C8.pe_mk c hr hk hg pa_w hdb he hpl) (ha H0 G H σ g.i s _ fun vs G1 H1 g1 r1 q dx h1 h2 h3 => ⟨H1, G1, ds, q, dx, vs, R, by rw [List.append_nil], h1, h2, h3, rfl, g1.i, r1, hT, fun fs G' H' t g' a o nd => by
    refine ⟨rfl, z.nx G' H' _ _ (g.trans (g1.trans g')) (((s.grow g1).grow g').put (lt_some hi) (.inr a) (fun b hb => ⟨(o b hb).1, (g.trans g1).h.back (o b hb).2⟩) nd fun j t _ ht b hb hb' => ?_) (kk q fs t)⟩
    obtain ⟨u, hu⟩ := (s.grow g1).dom ht hb'
    rw [(o b hb).2] at hu
    cases hu⟩))
end
end Fw
namespace Fw
open PySem PySem.Spec PyProof.Rows L2
/-! ### a heap without some objects -/
def lessH (H : Hp) (l : List Addr) : Hp := fun a => if a ∈ l then none else H a
theorem lessH_in {H : Hp} {l : List Addr} {a : Addr} (h : a ∈ l) : lessH H l a = none := if_pos h
theorem lessH_out {H : Hp} {l : List Addr} {a : Addr} (h : a ∉ l) : lessH H l a = H a := if_neg h
theorem lessH_le {H : Hp} {l : List Addr} : Ex (lessH H l) H := fun a o h => by
  by_cases z : a ∈ l
  · rw [lessH_in z] at h
    cases h
  · rw [lessH_out z] at h
    exact h
section
variable {W : Wd} {G H H0 G0 G' H' : Hp} {v : V} {l : List Addr}
theorem FldAt.less {f : Fld} (h : FldAt W G H v f) (hn : ∀ a ∈ f.fp, a ∉ l) : FldAt W G (lessH H l) v f := by
  cases f with
  | im d => exact h
  | ow p ds =>
    obtain ⟨e, vs, a, b⟩ := h
    exact ⟨e, vs, by rw [lessH_out (hn p (List.mem_singleton.mpr rfl))]; exact a, b⟩
theorem FldsAt.less : ∀ {vs : List V} {fs : List Fld}, FldsAt W G H vs fs → (∀ a ∈ fs.flatMap (·.fp), a ∉ l) → FldsAt W G (lessH H l) vs fs
  | _, _, .nil, _ => .nil
  | _, _, .cons a t, hn => by
    rw [List.flatMap_cons] at hn
    exact .cons (a.less fun b hb => hn b (List.mem_append_left _ hb)) (FldsAt.less t fun b hb => hn b (List.mem_append_right _ hb))
theorem SlotAt.less {t : Slot} (h : SlotAt W G H v t) (hn : ∀ a ∈ t.fp, a ∉ l) (hl : ∀ a ∈ l, ∀ xs, H a ≠ some (.tup xs)) : SlotAt W G (lessH H l) v t := by
  cases t with
  | no => trivial
  | im d => exact h
  | ow p ds =>
    obtain ⟨e, vs, a, b⟩ := h
    exact ⟨e, vs, by rw [lessH_out (hn p (List.mem_singleton.mpr rfl))]; exact a, b⟩
  | ob p C fs =>
    obtain ⟨e, dx, vfs, a, b, c⟩ := h
    refine ⟨e, dx, vfs, by rw [lessH_out (hn p List.mem_cons_self)]; exact a, b, c.less fun x hx => hn x (List.mem_cons_of_mem _ ?_)⟩
    rw [flat2]
    exact hx
  | tp p fs =>
    obtain ⟨e, vs, a, b⟩ := h
    exact ⟨e, vs, a, b.less hn⟩
  | dt p ks ds =>
    obtain ⟨e, xs, a, b⟩ := h
    exact ⟨e, xs, by rw [lessH_out (hn p (List.mem_singleton.mpr rfl))]; exact a, b⟩
theorem Grow.less (g : Grow G0 H0 G H) (hl : ∀ a ∈ l, H0 a = none) (g' : Grow G (lessH H l) G' H') : Grow G0 H0 G' H' :=
  ⟨g.g.trans g'.g, fun a o h => g'.h a o (by rw [lessH_out fun z => by rw [hl a z] at h; cases h]; exact g.h a o h), g'.i, fun a o h => by
    rcases g'.n a o h with z | z
    · exact g.n a o z
    · by_cases y : a ∈ l
      · exact .inr (hl a y)
      · rw [lessH_out y] at z
        exact .inr (g.h.back z)⟩
theorem FldsAt.noTup : ∀ {vs : List V} {fs : List Fld}, FldsAt W G H vs fs → ∀ a ∈ fs.flatMap (·.fp), ∀ xs, H a ≠ some (.tup xs)
  | _, _, .nil, a, h => by cases h
  | _, _, .cons (f := f) x t, a, h => by
    rw [List.flatMap_cons] at h
    rcases List.mem_append.mp h with z | z
    · cases f with
      | im d => cases z
      | ow p ds =>
        obtain ⟨e, vs, q, b⟩ := x
        rw [List.mem_singleton.mp z, q]
        intro xs y
        cases y
    · exact FldsAt.noTup t a z
theorem obNoTup {p C : Addr} {fs : List (Str × Fld)} (h : SlotAt W G H v (.ob p C fs)) : ∀ a ∈ (Slot.ob p C fs).fp, ∀ xs, H a ≠ some (.tup xs) := by
  obtain ⟨_, dx, vfs, hp, nm, at'⟩ := h
  intro a ha
  rcases List.mem_cons.mp ha with z | z
  · rw [z, hp]
    intro xs y
    cases y
  · exact at'.noTup a (by rw [← flat2]; exact z)
/-- an owned object went through a callee -/
theorem Sls.thru {σ : L2.St} {ss : List Slot} (e0 : Ex H0 H) (s : Sls W H0 G H σ ss) {i : Nat} {p C : Addr} {fs fs' : List (Str × Fld)} (h : ss[i]? = some (.ob p C fs)) (g' : Grow G (lessH H (Slot.ob p C fs).fp) G' H') (at' : SlotAt W G' H' (.ref p) (.ob p C fs'))
    (off : ∀ a ∈ (Slot.ob p C fs').fp, G' a = none ∧ lessH H (Slot.ob p C fs).fp a = none) (nd : (Slot.ob p C fs').fp.Nodup) : Sls W H0 G' H' σ (ss.set i (.ob p C fs')) := by
  obtain ⟨v, e, at0⟩ := s.got h (by intro z; cases z)
  have ev : v = .ref p := at0.1
  subst ev
  have nt := obNoTup at0
  have dm : ∀ j t, j ≠ i → ss[j]? = some t → ∀ a ∈ t.fp, ∃ o, lessH H (Slot.ob p C fs).fp a = some o := fun j t ne ht a ha => by
    obtain ⟨o, ho⟩ := s.dom ht ha
    exact ⟨o, by rw [lessH_out (s.dj j i t _ ne ht h a ha)]; exact ho⟩
  refine ⟨by rw [List.length_set, s.len], fun j t e2 => ?_, fun j t e2 a ha => ?_, fun j t e2 => ?_, fun j k t u ne e1 e2 a ha hb => ?_⟩
  · rcases get_set e2 with ⟨ej, et, _⟩ | ⟨ne, e2⟩
    · rw [ej, et]
      exact .inr ⟨_, e, at'⟩
    · rcases s.at_ j t e2 with z | ⟨v', h1, h2⟩
      · exact .inl z
      · exact .inr ⟨v', h1, (h2.less (fun a ha => s.dj j i t _ ne e2 h a ha) nt).mono g'.g g'.h⟩
  · rcases get_set e2 with ⟨ej, et, _⟩ | ⟨ne, e2⟩
    · rw [et] at ha
      refine ⟨(off a ha).1, ?_⟩
      have := (off a ha).2
      by_cases y : a ∈ (Slot.ob p C fs).fp
      · exact (s.off i _ h a y).2
      · rw [lessH_out y] at this
        exact e0.back this
    · obtain ⟨m1, m2⟩ := s.off j t e2 a ha
      refine ⟨?_, m2⟩
      obtain ⟨o, ho⟩ := dm j t ne e2 a ha
      cases q : G' a with
      | none => rfl
      | some u =>
        rcases g'.n a u q with z | z
        · rw [m1] at z; cases z
        · rw [ho] at z; cases z
  · rcases get_set e2 with ⟨ej, et, _⟩ | ⟨ne, e2⟩
    · rw [et]
      exact nd
    · exact s.nd j t e2
  · rcases get_set e1 with ⟨ej, et, _⟩ | ⟨n1, e1'⟩
    · rcases get_set e2 with ⟨ek, eu, _⟩ | ⟨n2, e2'⟩
      · exact ne (ej.trans ek.symm)
      · rw [et] at ha
        obtain ⟨o, ho⟩ := dm k u n2 e2' a hb
        rw [(off a ha).2] at ho
        cases ho
    · rcases get_set e2 with ⟨ek, eu, _⟩ | ⟨n2, e2'⟩
      · rw [eu] at hb
        obtain ⟨o, ho⟩ := dm j t n1 e1' a ha
        rw [(off a hb).2] at ho
        cases ho
      · exact s.dj j k t u ne e1' e2' a ha hb
end
/-! ### methods of an owned object -/
/-- data in, data out, the object changes -/
def spM (W : Wd) (C : Addr) (T : List (Str × Fld) → List D → D → List (Str × Fld) → Prop) : Sp := fun vs H Q _ => ∃ G ds p us fs d fs', vs = .ref p :: us ∧ Ex G H ∧ SlotAt W G H (.ref p) (.ob p C fs) ∧ (∀ a ∈ (Slot.ob p C fs).fp, G a = none) ∧ (Slot.ob p C fs).fp.Nodup ∧ RpA W G us ds ∧ T fs ds d fs' ∧
  ∀ v G' H', Grow G (lessH H (Slot.ob p C fs).fp) G' H' → Rp W G' v d → SlotAt W G' H' (.ref p) (.ob p C fs') → (∀ a ∈ (Slot.ob p C fs').fp, G' a = none ∧ lessH H (Slot.ob p C fs).fp a = none) → (Slot.ob p C fs').fp.Nodup → Q v H'
theorem Grow.lessRefl {G H : Hp} {l : List Addr} (i : Ex G H) (n : ∀ a ∈ l, G a = none) : Grow G (lessH H l) G H := ⟨.refl _, lessH_le, i, fun _ _ h => .inl h⟩
def selfS (n : Nat) (p C : Addr) (fs : List (Str × Fld)) (ds : List D) : List Slot := (Slot.ob p C fs :: ds.map Slot.im) ++ List.replicate (n - (ds.length + 1)) .no
section
variable {P : Program} {w : World} {K : PySem.W.Frag} {mg : Str → Option Value} {base : Heap}
/-- the slots at the start of a method -/
theorem self_at {W : Wd} {H0 G H : Hp} {N : List Str} {us : List V} {ds : List D} {p C : Addr} {fs : List (Str × Fld)} (r : RpA W G us ds) (hl : ds.length + 1 ≤ N.length) (at' : SlotAt W G H (.ref p) (.ob p C fs)) (off : ∀ a ∈ (Slot.ob p C fs).fp, G a = none ∧ H0 a = none) (nd : (Slot.ob p C fs).fp.Nodup) :
    Sls W H0 G H (L2.start N (.ref p :: us)) (selfS N.length p C fs ds) := by
  have s0 : Sls W H0 G H (L2.start N (.ref p :: us)) ((startS N.length (.non :: ds)).set 0 .no) := by
    have z : Sls W H0 G H (L2.start N (.non :: us)) (startS N.length (.non :: ds)) := start_at (.cons .non r) (by rw [List.length_cons]; exact hl)
    have := z.drop (i := 0) (o := some (.ref p))
    have e : (L2.start N (.non :: us)).set 0 (some (.ref p)) = L2.start N (.ref p :: us) := rfl
    rw [e] at this
    exact this
  have e0 : (startS N.length (.non :: ds)).set 0 .no = .no :: (startS N.length (.non :: ds)).drop 1 := rfl
  have fp0 : ∀ (j : Nat) t, ((startS N.length (.non :: ds)).set 0 .no)[j]? = some t → t.fp = [] := fun j t ht => by
    rcases get_set ht with ⟨_, rfl, _⟩ | ⟨_, ht⟩
    · rfl
    · have := List.mem_of_getElem? ht
      unfold startS at this
      rcases List.mem_append.mp this with z | z
      · obtain ⟨d, _, rfl⟩ := List.mem_map.mp z
        rfl
      · rw [List.eq_of_mem_replicate z]
        rfl
  exact s0.self at' (by rw [e0]; rfl) rfl off nd fp0
/-- a method by its body -/
theorem metM {m qual : Str} {C : Addr} {st : Stmt} {f : Addr} {fd : FuncData} {N ps : List Str} {k : Nat} (T : List (Str × Fld) → List D → D → List (Str × Fld) → Prop) (c : Cls K C) (me : Meth K C m f) (F : C8.Fun K m qual st f fd) (b : Binds K fd ps []) (S : FnScope N ps (C8.fnScope st)) (len : ∀ fs ds d fs', T fs ds d fs' → ds.length + 1 = ps.length) (hpN : ps.length ≤ N.length)
    (hbody : ∀ (cdv : Value) (A : Around) (outer : List Env) (s : Shared) (H : Hp) (E : XK), Room k (A.deeper (envOfC qual (C8.fnScope st) s.heap.objs.size f cdv)) → ∀ (p : Addr) fs ds d fs', T fs ds d fs' →
      SD (cxOf C8.CX0 P w K mg base N qual (C8.fnScope st) f cdv A outer s H E).nox (selfS N.length p C fs ds) (C8.fnBody st) { nx := fun ss' => d = .non ∧ ss'[0]? = some (.ob p C fs'), rt := fun t ss' => t = .im d ∧ ss'[0]? = some (.ob p C fs') }) : C8.Met P w K mg base (k + 1) C m (spM ⟨P, w, K⟩ C T) [] := by
  refine C8.met0 c me F b S (fun vs H Q E h => ?_) (fun cdv A outer s H vs Q E hr h => ⟨wSs _ _, pss_w, ?_⟩)
  · obtain ⟨G, ds, p, us, fs, d, fs', rfl, _, _, _, _, r, t, _⟩ := h
    rw [List.length_cons, r.length, len fs ds d fs' t]
  · obtain ⟨G, ds, p, us, fs, d, fs', rfl, i, at', off, nd, r, t, q⟩ := h
    have hl : ds.length + 1 ≤ N.length := by rw [len fs ds d fs' t]; exact hpN
    have g := Grow.lessRefl i off
    refine hbody cdv A outer s H E hr p fs ds d fs' t G (lessH H (Slot.ob p C fs).fp) G H _ g (self_at r hl at' (fun a ha => ⟨off a ha, lessH_in ha⟩) nd) _ ⟨fun G2 H2 σ2 ss2 g2 s2 h2 => ?_, fun G2 H2 σ2 ss2 v2 t2 g2 s2 a1 a2 a3 a4 a5 => ?_, fun G1 H1 σ1 ss1 g1 s1 h1 => h1.elim, fun G1 H1 σ1 ss1 g1 s1 h1 => h1.elim⟩
    · obtain ⟨hd, hs⟩ := h2
      obtain ⟨v, _, at2⟩ := s2.got hs (by intro z; cases z)
      have ev : v = .ref p := at2.1
      rw [ev] at at2
      rw [hd] at q
      exact q _ G2 H2 g2 .non at2 (s2.off 0 _ hs) (s2.nd 0 _ hs)
    · obtain ⟨hd, hs⟩ := a5
      obtain ⟨v, _, at2⟩ := s2.got hs (by intro z; cases z)
      have ev : v = .ref p := at2.1
      rw [ev] at at2
      rw [hd] at a1
      exact q _ G2 H2 g2 a1 at2 (s2.off 0 _ hs) (s2.nd 0 _ hs)
/-- data in, data out -/
theorem fnP {x qual : Str} {st : Stmt} {f : Addr} {fd : FuncData} {N ps : List Str} {k : Nat} (T : List D → D → Prop) (F : C8.Fun K x qual st f fd) (S : FnScope N ps (C8.fnScope st)) (len : ∀ ds d, T ds d → ds.length = ps.length) (hpN : ps.length ≤ N.length)
    (hbody : ∀ (cdv : Value) (A : Around) (outer : List Env) (s : Shared) (H : Hp) (E : XK), Room k (A.deeper (envOfC qual (C8.fnScope st) s.heap.objs.size f cdv)) → ∀ ds d, T ds d →
      SD (cxOf C8.CX0 P w K mg base N qual (C8.fnScope st) f cdv A outer s H E).nox (startS N.length ds) (C8.fnBody st) { nx := fun _ => d = .non, rt := fun t _ => t = .im d }) : FnOk P w K mg base C8.CX0 (k + 1) f fd ps (spP ⟨P, w, K⟩ T) := by
  refine C8.fn0 F S (fun vs H Q E h => ?_) (fun cdv A outer s H vs Q E hr h => ⟨wSs _ _, pss_w, ?_⟩)
  · obtain ⟨G, ds, d, i, r, t, _⟩ := h
    rw [r.length, len ds d t]
  · obtain ⟨G, ds, d, i, r, t, q⟩ := h
    have hl : ds.length ≤ N.length := by rw [len ds d t]; exact hpN
    refine hbody cdv A outer s H E hr ds d t G H G H (L2.start N vs) (.refl i) (start_at r hl) _ ⟨fun G1 H1 σ1 ss1 g1 s1 h1 => ?_, fun G1 H1 σ1 ss1 v1 t1 g1 s1 a1 a2 a3 a4 a5 => ?_, fun G1 H1 σ1 ss1 g1 s1 h1 => h1.elim, fun G1 H1 σ1 ss1 g1 s1 h1 => h1.elim⟩
    · have h1 : d = .non := h1
      subst h1
      exact q _ G1 H1 g1 .non
    · have a5 : t1 = .im d := a5
      subst a5
      exact q _ G1 H1 g1 a1
/-- data in, a new list out -/
theorem fnO {x qual : Str} {st : Stmt} {f : Addr} {fd : FuncData} {N ps : List Str} {k : Nat} (T : List D → List D → Prop) (F : C8.Fun K x qual st f fd) (S : FnScope N ps (C8.fnScope st)) (len : ∀ ds d, T ds d → ds.length = ps.length) (hpN : ps.length ≤ N.length)
    (hbody : ∀ (cdv : Value) (A : Around) (outer : List Env) (s : Shared) (H : Hp) (E : XK), Room k (A.deeper (envOfC qual (C8.fnScope st) s.heap.objs.size f cdv)) → ∀ ds d, T ds d →
      SD (cxOf C8.CX0 P w K mg base N qual (C8.fnScope st) f cdv A outer s H E).nox (startS N.length ds) (C8.fnBody st) { nx := fun _ => False, rt := fun t _ => ∃ q, t = .ow q d }) : FnOk P w K mg base C8.CX0 (k + 1) f fd ps (spO ⟨P, w, K⟩ T) := by
  refine C8.fn0 F S (fun vs H Q E h => ?_) (fun cdv A outer s H vs Q E hr h => ⟨wSs _ _, pss_w, ?_⟩)
  · obtain ⟨G, ds, d, i, r, t, _⟩ := h
    rw [r.length, len ds d t]
  · obtain ⟨G, ds, d, i, r, t, q⟩ := h
    have hl : ds.length ≤ N.length := by rw [len ds d t]; exact hpN
    refine hbody cdv A outer s H E hr ds d t G H G H (L2.start N vs) (.refl i) (start_at r hl) _ ⟨fun G1 H1 σ1 ss1 g1 s1 h1 => h1.elim, fun G1 H1 σ1 ss1 v1 t1 g1 s1 a1 a2 a3 a4 a5 => ?_, fun G1 H1 σ1 ss1 g1 s1 h1 => h1.elim, fun G1 H1 σ1 ss1 g1 s1 h1 => h1.elim⟩
    obtain ⟨p, rfl⟩ := a5
    obtain ⟨rfl, vs1, hp, r1⟩ := a1
    obtain ⟨n1, n2⟩ := a3 p (List.mem_singleton.mpr rfl)
    exact q p vs1 G1 H1 n2 g1 n1 hp r1
end
/-! ### expressions with an effect on the slots -/
def EF (X : Cx) (ss : List Slot) (e : Expr) (d : D) (ss' : List Slot) : Prop := ∀ G0 H0 G H σ, Grow G0 H0 G H → Sls (wd X) H0 G H σ ss → ∀ Q : VK, (∀ v G' H', Grow G0 H0 G' H' → Sls (wd X) H0 G' H' σ ss' → Rp (wd X) G' v d → Q v H') → wE X e σ H Q
def ETF (X : Cx) (ss : List Slot) (e : Expr) (b : Bool) (ss' : List Slot) : Prop := ∀ G0 H0 G H σ, Grow G0 H0 G H → Sls (wd X) H0 G H σ ss → ∀ Q : Bool → Hp → Prop, (∀ G' H', Grow G0 H0 G' H' → Sls (wd X) H0 G' H' σ ss' → Q b H') → wT X e σ H Q
def EWF (X : Cx) (ss : List Slot) (e : Expr) (b : Bool) (ss' : List Slot) : Prop := ∀ G0 H0 G H σ, Grow G0 H0 G H → Sls (wd X) H0 G H σ ss → ∀ Q : Bool → Hp → Prop, (∀ G' H', Grow G0 H0 G' H' → Sls (wd X) H0 G' H' σ ss' → Q b H') → wW X e σ H Q
section
variable {X : Cx} {ss ss' : List Slot} {A B : List Stmt} {P : Post} {e o c : Expr} {es : List Expr} {pos p p' p2 apos : Pos} {m y z : Str} {k j : Nat} {C : Addr} {T : List (Str × Fld) → List D → D → List (Str × Fld) → Prop}
theorem lookup_none {f : Str} : ∀ {fs : List (Str × Fld)} {vfs : List (Str × V)}, vfs.map (·.1) = fs.map (·.1) → fs.lookup f = none → vfs.lookup f = none
  | [], [], _, _ => rfl
  | [], _ :: _, h, _ => by cases h
  | _ :: _, [], h, _ => by cases h
  | (g, y) :: r, (g', u) :: q, h, hl => by
    rw [List.map_cons, List.map_cons, List.cons.injEq] at h
    obtain ⟨h1, h2⟩ := h
    have h1 : g' = g := h1
    subst h1
    rw [List.lookup_cons] at hl ⊢
    cases e : (f == g') with
    | true => rw [e] at hl; cases hl
    | false =>
      rw [e] at hl
      exact lookup_none h2 hl
/-- self.m(e, ..) -/
theorem ef_meth {pl : Sem Bool} (i : Nat) {q : Addr} {fs fs' : List (Str × Fld)} {ds : List D} {d : D} (c : C8.Met X.prog X.w X.K X.mg X.base k C m (spM (wd X) C T) []) (hr : Room j X.A) (hk : k ≤ j) (hs : ss[i]? = some (.ob q C fs)) (ha : EA X ss (e :: es) ds) (hT : T fs ds d fs') (hm : fs.lookup m = none)
    (hN : X.N[i]? = some y := by first | kernel_rfl! | rfl) (hv : Vis X.env.scope y := by first | exact Or.inl (by kernel_rfl!) | exact Or.inr (Or.inl (by kernel_rfl!)) | exact Or.inr (Or.inr (by kernel_rfl!)) | exact Or.inl rfl | exact Or.inr (Or.inl rfl) | exact Or.inr (Or.inr rfl)) (hd : (y == ("__debug__" : Str)) = false := by decide) (hcd : (y == ("__classdict__" : Str)) = false := by decide)
    (hst : starEach (e :: es) X.env = (false, eval e X.env) :: starEach es X.env := by first | kernel_rfl! | rfl) (hpl : (backTo pos (starEach es X.env)).any (·.1) = false := by first | kernel_rfl! | rfl)
    (ht : eval (.Call (.Attribute (.Name y p') m apos) (e :: es) [] pos) X.env = (do
      let ov ← eval (.Name y p') X.env
      standAt apos.atName
      let (f, first) ← holding [ov] (getMethod ov m pl)
      callWith pos f first (backTo pos (starEach (e :: es) X.env)) (backToKw pos (keywordEach [] X.env))) := by first | kernel_rfl! | rfl) : EF X ss (.Call (.Attribute (.Name y p') m apos) (e :: es) [] pos) d (ss.set i (.ob q C fs')) := fun G0 H0 G H σ g s Q kk => by
  obtain ⟨v, ev, at0⟩ := s.got hs (by intro z; cases z)
  have e1 : v = .ref q := at0.1
  subst e1
  obtain ⟨_, dx, vfs, hp, nm, at1⟩ := at0
  refine wE.of (C8.pe_mt (pl := pl) c hr hk (pe_var hN hv hd hcd) pa_w hst hpl ht) ⟨_, ev, q, dx, vfs, rfl, hp, lookup_none nm hm, ha H0 G H σ g.i s _ fun vs G1 H1 g1 r1 => ?_⟩
  have s1 := s.grow g1
  obtain ⟨v2, ev2, at2⟩ := s1.got hs (by intro z; cases z)
  have e2 : v2 = .ref q := at2.1
  subst e2
  refine ⟨G1, ds, q, vs, fs, d, fs', by rw [List.append_nil], g1.i, at2, fun a ha => (s1.off i _ hs a ha).1, s1.nd i _ hs, r1, hT, fun v G' H' g' r at' off nd => ?_⟩
  exact kk v G' H' ((g.trans g1).less (fun a ha => (s1.off i _ hs a ha).2) g') (s1.thru (g.trans g1).h hs g' at' off nd) r
theorem ef_meth0 {pl : Sem Bool} (i : Nat) {q : Addr} {fs fs' : List (Str × Fld)} {d : D} (c : C8.Met X.prog X.w X.K X.mg X.base k C m (spM (wd X) C T) []) (hr : Room j X.A) (hk : k ≤ j) (hs : ss[i]? = some (.ob q C fs)) (hT : T fs [] d fs') (hm : fs.lookup m = none)
    (hN : X.N[i]? = some y := by first | kernel_rfl! | rfl) (hv : Vis X.env.scope y := by first | exact Or.inl (by kernel_rfl!) | exact Or.inr (Or.inl (by kernel_rfl!)) | exact Or.inr (Or.inr (by kernel_rfl!)) | exact Or.inl rfl | exact Or.inr (Or.inl rfl) | exact Or.inr (Or.inr rfl)) (hd : (y == ("__debug__" : Str)) = false := by decide) (hcd : (y == ("__classdict__" : Str)) = false := by decide)
    (ht : eval (.Call (.Attribute (.Name y p') m apos) [] [] pos) X.env = (do
      let ov ← eval (.Name y p') X.env
      standAt apos.atName
      let (f, first) ← holding [ov] (getMethod ov m pl)
      callWith pos f first (backTo pos (starEach [] X.env)) (backToKw pos (keywordEach [] X.env))) := by first | kernel_rfl! | rfl) : EF X ss (.Call (.Attribute (.Name y p') m apos) [] [] pos) d (ss.set i (.ob q C fs')) := fun G0 H0 G H σ g s Q kk => by
  obtain ⟨v, ev, at0⟩ := s.got hs (by intro z; cases z)
  have e1 : v = .ref q := at0.1
  subst e1
  have at1 := at0
  obtain ⟨_, dx, vfs, hp, nm, _⟩ := at1
  refine wE.of (C8.pe_mt0 (pl := pl) c hr hk (pe_var hN hv hd hcd) ht) ⟨_, ev, q, dx, vfs, rfl, hp, lookup_none nm hm, ?_⟩
  refine ⟨G, [], q, [], fs, d, fs', rfl, g.i, at0, fun a ha => (s.off i _ hs a ha).1, s.nd i _ hs, .nil, hT, fun v G' H' g' r at' off nd => ?_⟩
  exact kk v G' H' (g.less (fun a ha => (s.off i _ hs a ha).2) g') (s.thru g.h hs g' at' off nd) r
/-- .. of a known object -/
theorem ee_meth0 {pl : Sem Bool} {ns : List Str} {vs : List D} {d : D} {U : List D → D → Prop} (c : C8.Met X.prog X.w X.K X.mg X.base k C m (spP (wd X) U) []) (hr : Room j X.A) (hk : k ≤ j) (ho : EE X ss o (.ins C ns vs)) (hU : U [.ins C ns vs] d) (hm : m ∉ ns)
    (ht : eval (.Call (.Attribute o m apos) [] [] pos) X.env = (do
      let ov ← eval o X.env
      standAt apos.atName
      let (f, first) ← holding [ov] (getMethod ov m pl)
      callWith pos f first (backTo pos (starEach [] X.env)) (backToKw pos (keywordEach [] X.env))) := by first | kernel_rfl! | rfl) : EE X ss (.Call (.Attribute o m apos) [] [] pos) d := fun H0 G H σ i s Q q =>
  wE.of (C8.pe_mt0 (pl := pl) c hr hk pe_w ht) (ho H0 G H σ i s _ fun v G1 H1 g1 r1 => by
    cases r1 with
    | ins z e r =>
      refine ⟨_, _, _, rfl, g1.i _ _ z, ?_, G1, _, d, g1.i, .cons (.ins z e r) .nil, hU, fun v G' H' g r => q v G' H' (g1.trans g) r⟩
      rw [List.lookup_eq_none_iff]
      intro p hp
      rw [bne_iff_ne]
      intro h
      exact hm (by rw [h, ← e]; exact List.mem_map_of_mem hp))
theorem metP {P : Program} {w : World} {K : PySem.W.Frag} {mg : Str → Option Value} {base : Heap} {f : Addr} {fd : FuncData} {ps : List Str} {sp : Sp} (c : Cls K C) (me : Meth K C m f) (b : Binds K fd ps []) (F : FnOk P w K mg base C8.CX0 k f fd ps sp) : C8.Met P w K mg base k C m sp [] := ⟨f, fd, ps, [], c, me, F, b, .nil⟩
theorem ef_ee {d : D} (h : EE X ss e d) : EF X ss e d ss := fun G0 H0 G H σ g s Q k => h H0 G H σ g.i s Q fun v G1 H1 g1 r => k v G1 H1 (g.trans g1) (s.grow g1) r
theorem etf_et {b : Bool} (h : ET X ss e b) : ETF X ss e b ss := fun G0 H0 G H σ g s Q k => h H0 G H σ g.i s Q fun G1 H1 g1 => k G1 H1 (g.trans g1) (s.grow g1)
theorem ewf_ew {b : Bool} (h : EW X ss e b) : EWF X ss e b ss := fun G0 H0 G H σ g s Q k => h H0 G H σ g.i s Q fun G1 H1 g1 => k G1 H1 (g.trans g1) (s.grow g1)
theorem EWF.cast {b b' : Bool} (h : EWF X ss e b ss') (q : b = b') : EWF X ss e b' ss' := q ▸ h
theorem ETF.cast {b b' : Bool} (h : ETF X ss e b ss') (q : b = b') : ETF X ss e b' ss' := q ▸ h
theorem etf_w {b : Bool} (h : EWF X ss e b ss') : ETF X ss e b ss' := fun G0 H0 G H σ g s Q k => wT.of pw_w.pt (h G0 H0 G H σ g s Q k)
theorem etf_not {b : Bool} (h : ETF X ss e b ss') : ETF X ss (.UnaryOp .Not e pos) (!b) ss' := fun G0 H0 G H σ g s Q k => wT.of (pt_not pt_w) (h G0 H0 G H σ g s _ fun G1 H1 g1 s1 => k G1 H1 g1 s1)
theorem etf_val {b : Bool} (h : EF X ss e (.bl b) ss') (he : ∀ whole, isTrue e X.env whole = (do let v ← whole; standAt e.pos; holding [v] (truthy v)) := by intro _; rfl) : ETF X ss e b ss' := fun G0 H0 G H σ g s Q k =>
  wT.of (pt_val pe_w he) (h G0 H0 G H σ g s _ fun v G1 H1 g1 s1 r1 => by
    cases r1
    exact ⟨b, rfl, k G1 H1 g1 s1⟩)
theorem ewf_and1 {b : Bool} (h : ETF X ss e b ss') : EWF X ss (.BoolOp .And [e] pos) b ss' := fun G0 H0 G H σ g s Q k => wW.of (pw_and1 pt_w) (h G0 H0 G H σ g s Q k)
theorem ewf_and {x y : Bool} (ha : ET X ss e x) (h1 : x = true → EWF X ss (.BoolOp .And (o :: es) pos) y ss') (h2 : x = false → ss' = ss) : EWF X ss (.BoolOp .And (e :: o :: es) pos) (x && y) ss' := fun G0 H0 G H σ g s Q k =>
  wW.of (pw_and pt_w pw_w) (ha H0 G H σ g.i s _ fun G1 H1 g1 => by
    cases x with
    | true => exact iteT (h1 rfl G0 H0 G1 H1 σ (g.trans g1) (s.grow g1) _ fun G2 H2 g2 s2 => k G2 H2 g2 s2)
    | false => exact iteF (k G1 H1 (g.trans g1) (by rw [h2 rfl]; exact s.grow g1)))
/-! statements -/
theorem ss_exprF {d : D} (h : EF X ss e d ss') (k : P.nx ss') (hs : swapsWith e none pos.line X.env = pure false := by first | kernel_rfl! | rfl) : SS X ss (.Expr e pos) P := fun G0 H0 G H σ g s E q =>
  wS.of (ps_expr pe_w hs) (h G0 H0 G H σ g s _ fun v G1 H1 g1 s1 r1 => q.nx G1 H1 σ ss' g1 s1 k)
theorem ss_asgF (i : Nat) {d : D} {x : Str} (h : EF X ss e d ss') (k : P.nx (ss'.set i (.im d))) (hN : X.N.Nodup) (hi : (ss'[i]?).isSome = true := by first | kernel_rfl! | rfl) (hx : X.N[i]? = some x := by first | kernel_rfl! | rfl) (hl : Loc X.env.scope x := by first | exact Or.inl (by kernel_rfl!) | exact Or.inr (by kernel_rfl!) | exact Or.inl rfl | exact Or.inr rfl)
    (hs : swapsWith e (some (.Name x p')) pos.line X.env = pure false := by first | kernel_rfl! | rfl) (hf : X.fn x = true ∨ X.env.scope.names.lookup x = some .local := by first | exact .inl (by kernel_rfl!) | exact .inr (by kernel_rfl!) | exact .inl rfl | exact .inr rfl) : SS X ss (.Assign [.Name x p'] e pos) P := fun G0 H0 G H σ g s E q =>
  wS.of (ps_set hN hx hl pe_w hs hf) (h G0 H0 G H σ g s _ fun v G1 H1 g1 s1 r1 => q.nx G1 H1 _ _ g1 (s1.im (lt_some hi) r1) k)
theorem ss_ifF {b : Bool} (h : ETF X ss c b ss') (h1 : b = true → SD X ss' A P) (h2 : b = false → SD X ss' B P) : SS X ss (.If c A B pos) P := fun G0 H0 G H σ g s E q =>
  wS.of (ps_if pt_w pss_w pss_w) (h G0 H0 G H σ g s _ fun G1 H1 g1 s1 => by
    cases b with
    | true => exact iteT (h1 rfl G0 H0 G1 H1 σ g1 s1 E q)
    | false => exact iteF (h2 rfl G0 H0 G1 H1 σ g1 s1 E q))
/-- self.f.append(e), self an owned object, the field an own list -/
theorem fldsAt_ow {W : Wd} {G H : Hp} {f : Str} {p : Addr} {us : List V} {es : List D} (hp : H p = some (.lst us)) (r : RpA W G us es) {ds : List D} : ∀ {fs : List (Str × Fld)} {vfs : List (Str × V)}, vfs.map (·.1) = fs.map (·.1) → FldsAt W G H (vfs.map (·.2)) (fs.map (·.2)) → fs.lookup f = some (.ow p ds) → FldsAt W G H (vfs.map (·.2)) ((putL f (.ow p es) fs).map (·.2))
  | [], [], _, _, h => by cases h
  | [], _ :: _, h, _, _ => by cases h
  | _ :: _, [], h, _, _ => by cases h
  | (g, y) :: r, (g', u) :: q, h, a, hl => by
    rw [List.map_cons, List.map_cons, List.cons.injEq] at h
    obtain ⟨h1, h2⟩ := h
    have h1 : g' = g := h1
    subst h1
    cases a with
    | cons a t =>
      rw [List.lookup_cons] at hl
      unfold putL
      cases e : (f == g') with
      | true =>
        rw [e] at hl
        cases hl
        rw [if_pos (eq_of_beq e).symm]
        exact .cons ⟨a.1, us, hp, ‹RpA W G us es›⟩ t
      | false =>
        rw [e] at hl
        rw [if_neg fun z => by rw [z] at e; simp at e]
        exact .cons a (fldsAt_ow hp ‹RpA W G us es› h2 t hl)
theorem putL_fp {f : Str} {p : Addr} {ds es : List D} : ∀ {fs : List (Str × Fld)}, fs.lookup f = some (.ow p ds) → (putL f (.ow p es) fs).map (·.1) = fs.map (·.1) ∧ (putL f (.ow p es) fs).flatMap (·.2.fp) = fs.flatMap (·.2.fp)
  | [], h => by cases h
  | (g, y) :: r, h => by
    rw [List.lookup_cons] at h
    unfold putL
    cases e : (f == g) with
    | true =>
      rw [e] at h
      cases h
      rw [if_pos (eq_of_beq e).symm]
      exact ⟨rfl, rfl⟩
    | false =>
      rw [e] at h
      rw [if_neg fun z => by rw [z] at e; simp at e]
      obtain ⟨h1, h2⟩ := putL_fp h
      exact ⟨by rw [List.map_cons, h1]; rfl, by rw [List.flatMap_cons, h2]; rfl⟩
theorem mem_fp {f : Str} {p : Addr} {ds : List D} : ∀ {fs : List (Str × Fld)}, fs.lookup f = some (.ow p ds) → p ∈ fs.flatMap (·.2.fp)
  | [], h => by cases h
  | (g, y) :: r, h => by
    rw [List.lookup_cons] at h
    rw [List.flatMap_cons]
    cases e : (f == g) with
    | true =>
      rw [e] at h
      cases h
      exact List.mem_append_left _ (List.mem_singleton.mpr rfl)
    | false =>
      rw [e] at h
      exact List.mem_append_right _ (mem_fp h)
theorem ow_at {W : Wd} {G H : Hp} {f : Str} {p : Addr} {ds : List D} : ∀ {fs : List (Str × Fld)} {vfs : List (Str × V)}, vfs.map (·.1) = fs.map (·.1) → FldsAt W G H (vfs.map (·.2)) (fs.map (·.2)) → fs.lookup f = some (.ow p ds) → vfs.lookup f = some (.ref p) ∧ ∃ vs, H p = some (.lst vs) ∧ RpA W G vs ds := fun nm at' hl => by
  obtain ⟨v, h1, h2⟩ := fldsAt_get nm at' hl
  obtain ⟨rfl, h3⟩ := h2
  exact ⟨h1, h3⟩
/-- keepBut, in a field -/
theorem FldsAt.mutIn {W : Wd} {G H : Hp} {f : Str} {p : Addr} {ds es : List D} {us : List V} (r : RpA W G us es) : ∀ {fs : List (Str × Fld)} {vfs : List (Str × V)}, vfs.map (·.1) = fs.map (·.1) → FldsAt W G H (vfs.map (·.2)) (fs.map (·.2)) → fs.lookup f = some (.ow p ds) → (fs.flatMap (·.2.fp)).Nodup → FldsAt W G (upd H p (.lst us)) (vfs.map (·.2)) ((putL f (.ow p es) fs).map (·.2))
  | [], [], _, _, h, _ => by cases h
  | [], _ :: _, h, _, _, _ => by cases h
  | _ :: _, [], h, _, _, _ => by cases h
  | (g, y) :: rr, (g', u) :: q, h, a, hl, nd => by
    rw [List.map_cons, List.map_cons, List.cons.injEq] at h
    obtain ⟨h1, h2⟩ := h
    have h1 : g' = g := h1
    subst h1
    rw [List.flatMap_cons, List.nodup_append] at nd
    obtain ⟨nd1, nd2, nd3⟩ := nd
    cases a with
    | cons a t =>
      rw [List.lookup_cons] at hl
      unfold putL
      cases e : (f == g') with
      | true =>
        rw [e] at hl
        cases hl
        rw [if_pos (eq_of_beq e).symm]
        refine .cons ⟨a.1, us, upd_same, r⟩ (FldsAt.keepBut t fun z => ?_)
        rw [← flat2] at z
        exact nd3 p (List.mem_singleton.mpr rfl) p z rfl
      | false =>
        rw [e] at hl
        rw [if_neg fun z => by rw [z] at e; simp at e]
        exact .cons (a.keepBut fun z => nd3 p z p (mem_fp hl) rfl) (FldsAt.mutIn r h2 t hl nd2)
/-- a list in an owned object changes -/
theorem Sls.mutF {W : Wd} {H0 G H : Hp} {σ : L2.St} {ss : List Slot} (s : Sls W H0 G H σ ss) {i : Nat} {q C p : Addr} {fs : List (Str × Fld)} {f : Str} {ds es : List D} {us : List V} (h : ss[i]? = some (.ob q C fs)) (hf : fs.lookup f = some (.ow p ds)) (r : RpA W G us es) : Sls W H0 G (upd H p (.lst us)) σ (ss.set i (.ob q C (putL f (.ow p es) fs))) := by
  obtain ⟨v, e, ev, dx, vfs, hq, nm, at'⟩ := s.got h (by intro z; cases z)
  subst ev
  obtain ⟨_, vs, hp, _⟩ := ow_at nm at' hf
  have nd := s.nd i _ h
  obtain ⟨nd1, nd2⟩ := List.nodup_cons.mp nd
  have fe := putL_fp (es := es) hf
  have fe2 : (Slot.ob q C (putL f (.ow p es) fs)).fp = (Slot.ob q C fs).fp := by
    show q :: (putL f (.ow p es) fs).flatMap (·.2.fp) = q :: fs.flatMap (·.2.fp)
    rw [fe.2]
  have pm := mem_fp hf
  have qp : q ≠ p := fun z => nd1 (by rw [z]; exact pm)
  have pm2 : p ∈ (Slot.ob q C fs).fp := List.mem_cons_of_mem _ pm
  refine ⟨by rw [List.length_set, s.len], fun j t e' => ?_, fun j t e' a ha => ?_, fun j t e' => ?_, fun j k t u ne e1 e2 a ha hb => ?_⟩
  · rcases get_set e' with ⟨ej, et, _⟩ | ⟨ne, e'⟩
    · rw [ej, et]
      exact .inr ⟨_, e, rfl, dx, vfs, by rw [upd_ne qp]; exact hq, nm.trans fe.1.symm, at'.mutIn r nm hf nd2⟩
    · rcases s.at_ j t e' with z | ⟨v', h1, h2⟩
      · exact .inl z
      · exact .inr ⟨v', h1, h2.keepBut (fun z => s.dj i j _ t (Ne.symm ne) h e' p pm2 z) fun xs z => by rw [hp] at z; cases z⟩
  · rcases get_set e' with ⟨ej, et, _⟩ | ⟨ne, e'⟩
    · rw [et, fe2] at ha
      exact s.off i _ h a ha
    · exact s.off j t e' a ha
  · rcases get_set e' with ⟨ej, et, _⟩ | ⟨ne, e'⟩
    · rw [et, fe2]
      exact nd
    · exact s.nd j t e'
  · rcases get_set e1 with ⟨ej, et, _⟩ | ⟨n1, e1'⟩
    · rcases get_set e2 with ⟨ek, eu, _⟩ | ⟨n2, e2'⟩
      · exact ne (ej.trans ek.symm)
      · rw [et, fe2] at ha
        exact s.dj i k _ u (Ne.symm n2) h e2' a ha hb
    · rcases get_set e2 with ⟨ek, eu, _⟩ | ⟨n2, e2'⟩
      · rw [eu, fe2] at hb
        exact s.dj j i t _ n1 e1' h a ha hb
      · exact s.dj j k t u ne e1' e2' a ha hb
theorem ss_fldapp (i : Nat) {q l : Addr} {fs : List (Str × Fld)} {f : Str} {ds : List D} {d : D} {x : Str} {fpos apos cpos : Pos} (hs : ss[i]? = some (.ob q C fs)) (hf : fs.lookup f = some (.ow l ds)) (h : EE X ss e d) (hl : ds.length ≤ 100000) (k : P.nx (ss.set i (.ob q C (putL f (.ow l (ds ++ [d])) fs)))) (c : Cls X.K C) (na : NoAttr X.K C f) (hN : X.N[i]? = some x := by first | kernel_rfl! | rfl) (hv : Vis X.env.scope x := by first | exact Or.inl (by kernel_rfl!) | exact Or.inr (Or.inl (by kernel_rfl!)) | exact Or.inr (Or.inr (by kernel_rfl!)) | exact Or.inl rfl | exact Or.inr (Or.inl rfl) | exact Or.inr (Or.inr rfl)) (hd : (x == ("__debug__" : Str)) = false := by decide)
    (hcd : (x == ("__classdict__" : Str)) = false := by decide) (hb : attributeBase (.Name x p') f X.env (eval (.Name x p') X.env) = eval (.Name x p') X.env := by first | kernel_rfl! | rfl)
    (hbase : attributeBase (.Attribute (.Name x p') f fpos) "append" X.env (eval (.Attribute (.Name x p') f fpos) X.env) = eval (.Attribute (.Name x p') f fpos) X.env := by first | kernel_rfl! | rfl)
    (hfew : ((backTo cpos (starEach [e] X.env)).all (fun x => !x.1) && (backToKw cpos (keywordEach [] X.env)).all (fun x => x.1.isSome)
      && decide (([e] : List Expr).length + ([] : List Keyword).length + (if ([] : List Keyword).isEmpty then 0 else 1) < 30)) = true := by first | kernel_rfl! | rfl)
    (hline : (apos.endLine == cpos.line) = true := by first | kernel_rfl! | rfl) (hse : starEach [e] X.env = (false, eval e X.env) :: starEach [] X.env := by first | kernel_rfl! | rfl) (hplain : (backTo cpos (starEach [] X.env)).any (·.1) = false := by first | kernel_rfl! | rfl)
    (hsw : swapsWith (.Call (.Attribute (.Attribute (.Name x p') f fpos) "append" apos) [e] [] cpos) none pos.line X.env = pure false := by first | kernel_rfl! | rfl) : SS X ss (.Expr (.Call (.Attribute (.Attribute (.Name x p') f fpos) "append" apos) [e] [] cpos) pos) P := fun G0 H0 G H σ g s E z => by
  obtain ⟨v, e1, ev, dx, vfs, hq, nm, at'⟩ := s.got hs (by intro z; cases z)
  subst ev
  obtain ⟨hlk, vs, hp, r⟩ := ow_at nm at' hf
  obtain ⟨n1, n2⟩ := s.off i _ hs l (List.mem_cons_of_mem _ (mem_fp hf))
  refine wS.of (ps_expr (pe_bm PySem.F.plainAttrs_list PySem.F.slot_list_append PySem.F.type_list_append mt_append (pe_fld (pe_var hN hv hd hcd) hb) pa_w hbase hfew hline hse hplain) hsw) ⟨_, e1, _, _, _, _, _, rfl, hq, c, na, hlk, .inl ⟨rfl, _, SqL.of hp⟩, ?_⟩
  refine ea_cons h ea_nil hse H0 G H σ g.i s _ fun ws G1 H1 g1 r1 => ?_
  cases r1 with
  | cons r1 t =>
    cases t
    have s1 := s.grow g1
    refine ⟨_, _, _, rfl, rfl, g1.h _ _ hp, small (by rw [r.length]; exact hl), ?_⟩
    exact z.nx G1 _ _ _ ((g.trans g1).mutE (g1.off hp n1) n2) (s1.mutF hs hf ((r.up g1.g).snoc r1)) k
end
end Fw
namespace Fw
open PySem PySem.Spec PyProof.Rows L2
section
variable {X : Cx} {ss : List Slot} {e a b c f tg it elt kx vx : Expr} {es rest ifs : List Expr} {pos p2 p spos py pt px pz pt2 : Pos} {scope : Scope} {own : List (Str × Nat)} {P : Post}
/-- y = [..] on one line, y a local -/
theorem ss_setLc {α : Type} {xs : List α} (i : Nat) {y : Str} (enc : α → D) (g : α → D) (ws : α → List (Nat × D)) (hN : X.N.Nodup) (ok : BlkOk X.N X.env.scope scope own) (hi : EI X ss tg it (xs.map enc)) (hl : xs.length ≤ 100000)
    (hg : ∀ d ∈ xs, Bk X scope fun Y => GD Y (wipeS ss (own.map (·.2))) tg (enc d) (ws d)) (hw : ∀ d ∈ xs, ∀ p ∈ ws d, p.1 ∈ own.map (·.2))
    (he : ∀ d ∈ xs, Bk X scope fun Y => EE Y (putS (wipeS ss (own.map (·.2))) (ws d)) elt (g d)) (k : ∀ q, P.nx (ss.set i (.ow q (xs.map g))))
    (hlt : (ss[i]?).isSome = true := by first | kernel_rfl! | rfl) (hx : X.N[i]? = some y := by first | kernel_rfl! | rfl) (hyl : X.env.scope.names.lookup y = some .local := by first | kernel_rfl! | rfl) (hsw : swapsWith (.ListComp elt [⟨tg, it, [], 0⟩] scope pos) (some (.Name y py)) spos.line X.env = pure true := by first | kernel_rfl! | rfl)
    (hc : X.calm = true := by first | kernel_rfl! | rfl) (hs : ∀ x, foldedSetIterable it X.env x = pure x := by intro _; rfl) : SS X ss (.Assign [.Name y py] (.ListComp elt [⟨tg, it, [], 0⟩] scope pos) spos) P := fun G0 H0 G H σ g0 s E q =>
  wS.of (ps_setLc hc hN hx hyl hsw pi_w ok pg_u pts_u pe_u hs) (lcW enc (fun _ => true) g ws hi hl hg hw (fun d _ s H C cl fp => ets_nil) (fun d hd _ => he d hd) g0.i s _ fun p vs G1 H1 hn g1 hg hp r1 => by
    rw [List.filter_eq_self.mpr (fun _ _ => rfl)] at r1
    exact q.nx G1 H1 _ _ (g0.trans g1) ((s.grow g1).own (lt_some hlt) hp r1 hg (g0.h.back hn) (s.fresh hn)) (k p))
/-- x, y = a, b, plain local names -/
theorem Sls.two {W : Wd} {H0 G H : Hp} {σ : L2.St} (s : Sls W H0 G H σ ss) {i j : Nat} {v w : V} {d1 d2 : D} (hi : i < ss.length) (hj : j < ss.length) (r1 : Rp W G v d1) (r2 : Rp W G w d2) : Sls W H0 G H ((σ.set i (some v)).set j (some w)) ((ss.set i (.im d1)).set j (.im d2)) :=
  (s.im hi r1).im (by rw [List.length_set]; exact hj) r2
theorem ss_par (i j : Nat) {x y : Str} {d1 d2 : D} {kt k2} (h : EA X ss [a, b] [d1, d2]) (k : P.nx ((ss.set i (.im d1)).set j (.im d2))) (hN : X.N.Nodup) (hij : i ≠ j := by decide) (hi : (ss[i]?).isSome = true := by first | kernel_rfl! | rfl) (hj : (ss[j]?).isSome = true := by first | kernel_rfl! | rfl) (hxi : X.N[i]? = some x := by first | kernel_rfl! | rfl) (hyj : X.N[j]? = some y := by first | kernel_rfl! | rfl)
    (hx : X.env.scope.names.lookup x = some .local := by first | kernel_rfl! | rfl) (hy : X.env.scope.names.lookup y = some .local := by first | kernel_rfl! | rfl) (hc : X.calm = true := by first | kernel_rfl! | rfl)
    (hw : swappedStores [.Tuple [.Name x px, .Name y py] kt pt] (.Tuple [a, b] k2 pt2) X.env = pure (some [x, y]) := by first | kernel_rfl! | rfl)
    (hs : swapsWithSole [.Tuple [.Name x px, .Name y py] kt pt] (.Tuple [a, b] k2 pt2) pos.line X.env = pure false := by first | kernel_rfl! | rfl) : SS X ss (.Assign [.Tuple [.Name x px, .Name y py] kt pt] (.Tuple [a, b] k2 pt2) pos) P := fun G0 H0 G H σ g s E q =>
  wS.of (ps_par hc hN hxi hyj hij hx hy pa_w hw hs) (h H0 G H σ g.i s _ fun vs G1 H1 g1 r1 => by
    cases r1 with
    | cons r1 t =>
      cases t with
      | cons r2 t =>
        cases t
        exact ⟨_, _, rfl, q.nx G1 H1 _ _ (g.trans g1) ((s.grow g1).two (lt_some hi) (lt_some hj) r1 r2) k⟩)
theorem ss_par3 (i j l : Nat) {x y z : Str} {d1 d2 d3 : D} {kt k2} (h : EA X ss [a, b, c] [d1, d2, d3]) (k : P.nx (((ss.set i (.im d1)).set j (.im d2)).set l (.im d3))) (hN : X.N.Nodup) (hij : i ≠ j := by decide) (hil : i ≠ l := by decide) (hjl : j ≠ l := by decide) (hi : (ss[i]?).isSome = true := by first | kernel_rfl! | rfl) (hj : (ss[j]?).isSome = true := by first | kernel_rfl! | rfl) (hl : (ss[l]?).isSome = true := by first | kernel_rfl! | rfl) (hxi : X.N[i]? = some x := by first | kernel_rfl! | rfl) (hyj : X.N[j]? = some y := by first | kernel_rfl! | rfl) (hzl : X.N[l]? = some z := by first | kernel_rfl! | rfl)
    (hx : X.env.scope.names.lookup x = some .local := by first | kernel_rfl! | rfl) (hy : X.env.scope.names.lookup y = some .local := by first | kernel_rfl! | rfl) (hz : X.env.scope.names.lookup z = some .local := by first | kernel_rfl! | rfl) (hc : X.calm = true := by first | kernel_rfl! | rfl)
    (hw : swappedStores [.Tuple [.Name x px, .Name y py, .Name z pz] kt pt] (.Tuple [a, b, c] k2 pt2) X.env = pure (some [x, y, z]) := by first | kernel_rfl! | rfl)
    (hs : swapsWithSole [.Tuple [.Name x px, .Name y py, .Name z pz] kt pt] (.Tuple [a, b, c] k2 pt2) pos.line X.env = pure false := by first | kernel_rfl! | rfl) : SS X ss (.Assign [.Tuple [.Name x px, .Name y py, .Name z pz] kt pt] (.Tuple [a, b, c] k2 pt2) pos) P := fun G0 H0 G H σ g s E q =>
  wS.of (ps_par3 hc hN hxi hyj hzl hij hil hjl hx hy hz pa_w hw hs) (h H0 G H σ g.i s _ fun vs G1 H1 g1 r1 => by
    cases r1 with
    | cons r1 t =>
      cases t with
      | cons r2 t =>
        cases t with
        | cons r3 t =>
          cases t
          exact ⟨_, _, _, rfl, q.nx G1 H1 _ _ (g.trans g1) (((s.grow g1).two (lt_some hi) (lt_some hj) r1 r2).im (by rw [List.length_set, List.length_set]; exact lt_some hl) r3) k⟩)
/-! ### dicts made -/
theorem mergeK_nil : ∀ {more kvs : List (Key × V)}, ((kvs ++ more).map (·.1)).Nodup → mergeK kvs more = kvs ++ more
  | [], kvs, _ => by rw [List.append_nil]; rfl
  | p :: r, kvs, h => by
    have e : valV kvs p.1 = none := by
      unfold valV
      rw [Option.map_eq_none_iff, List.find?_eq_none]
      intro q hq z
      have z : q.1 = p.1 := by simpa using z
      rw [List.map_append, List.map_cons, List.nodup_append] at h
      exact h.2.2 q.1 (List.mem_map_of_mem hq) p.1 List.mem_cons_self z
    show mergeK (putK kvs p.1 p.2) r = kvs ++ p :: r
    rw [putK_new _ e]
    have := mergeK_nil (more := r) (kvs := kvs ++ [(p.1, p.2)]) (by rw [List.append_assoc]; exact h)
    rw [this, List.append_assoc]
    rfl
def EPs (X : Cx) (ss : List Slot) (pos : Pos) (ks : List (Option Expr)) (vs : List Expr) (kds : List (Key × D)) : Prop := ∃ trs, PPs X pos ks vs trs ∧ ∀ H0 G H σ, Ex G H → Sls (wd X) H0 G H σ ss → ∀ Q : List (V × V) → Hp → Prop,
  (∀ (kvs : List (Key × V)) G' H', Grow G H G' H' → kvs.map (·.1) = kds.map (·.1) → RpA (wd X) G' (kvs.map (·.2)) (kds.map (·.2)) → Q (kvs.map fun kv => (kV kv.1, kv.2)) H') → tPairs trs σ H Q
theorem eps_nil : EPs X ss pos [] [] [] := ⟨[], pps_nil, fun H0 G H σ i s Q k => k [] G H (.refl i) rfl .nil⟩
theorem eps_cons {ks : List (Option Expr)} {vs : List Expr} {kds : List (Key × D)} {k : Key} {d : D} (h1 : EE X ss a (kD k)) (h2 : EE X ss b d) (h : EPs X ss pos ks vs kds) : EPs X ss pos (some a :: ks) (b :: vs) ((k, d) :: kds) := by
  obtain ⟨trs, pp, t⟩ := h
  refine ⟨_, pps_cons pe_w pe_w pp, fun H0 G H σ i s Q q => ?_⟩
  refine h1 H0 G H σ i s _ fun x G1 H1 g1 r1 => h2 H0 G1 H1 σ g1.i (s.grow g1) _ fun y G2 H2 g2 r2 => t H0 G2 H2 σ g2.i (s.grow (g1.trans g2)) _ fun kvs G3 H3 g3 e r => ?_
  have e1 := r1.key
  subst e1
  exact q ((k, y) :: kvs) G3 H3 (g1.trans (g2.trans g3)) (by rw [List.map_cons, e]; rfl) (.cons (r2.up g3.g) r)
theorem eo_disp {ks : List (Option Expr)} {vs : List Expr} {kds : List (Key × D)} (h : EPs X ss pos ks vs kds) (nd : (kds.map (·.1)).Nodup := by decide) (hall : ks.all (·.isSome) = true := by first | kernel_rfl! | rfl) (hl : ks.length = vs.length := by first | kernel_rfl! | rfl) (h0 : ks ≠ [] := by decide) (h15 : ks.length ≤ 15 := by decide) (hk15 : kds.length ≤ 15 := by first | decide | exact of_decide_eq_true rfl) : EE X ss (.Dict ks vs pos) (.dk (kds.map (·.1)) (kds.map (·.2))) := fun H0 G H σ i s Q q => by
  obtain ⟨trs, pp, t⟩ := h
  refine wE.of (pe_disp pp hall hl h0 h15) fun p hp => ?_
  have g0 : Grow G H G (upd H p (.dK [])) := .hid i hp
  refine t H0 G _ σ g0.i (s.grow g0) _ fun kvs G1 H1 g1 e r => ?_
  have e1 := g1.h _ _ (upd_same : upd H p (.dK []) p = some (.dK []))
  have n1 : G1 p = none := g1.off upd_same (i.back hp)
  refine ⟨e1, kvs, rfl, ?_, ?_⟩
  · rw [← List.length_map (f := fun x : Key × V => x.1), e, List.length_map]
    exact hk15
  · have em : mergeK [] kvs = kvs := by
      have := mergeK_nil (more := kvs) (kvs := []) (by rw [List.nil_append, e]; exact nd)
      rw [List.nil_append] at this
      exact this
    rw [em]
    refine q _ (upd G1 p (.dK kvs)) _ (((g0.trans g1).mut hp n1).know hp upd_same) (.dk upd_same e (r.up (Ex.new n1)))
/-- a dict comprehension, keys apart -/
theorem ee_dc {α : Type} {xs : List α} (enc : α → D) (kf : α → Key) (g : α → D) (ws : α → List (Nat × D)) (hN : X.N.Nodup) (ok : BlkOk X.N X.env.scope scope own) (hi : EI X ss tg it (xs.map enc)) (hl : xs.length ≤ 100000) (nd : (xs.map kf).Nodup)
    (hg : ∀ d ∈ xs, Bk X scope fun Y => GD Y (wipeS ss (own.map (·.2))) tg (enc d) (ws d)) (hw : ∀ d ∈ xs, ∀ p ∈ ws d, p.1 ∈ own.map (·.2))
    (hk : ∀ d ∈ xs, Bk X scope fun Y => EE Y (putS (wipeS ss (own.map (·.2))) (ws d)) kx (kD (kf d))) (he : ∀ d ∈ xs, Bk X scope fun Y => EE Y (putS (wipeS ss (own.map (·.2))) (ws d)) vx (g d))
    (hc : X.calm = true := by first | kernel_rfl! | rfl) (hs : ∀ x, foldedSetIterable it X.env x = pure x := by intro _; rfl) : EE X ss (.DictComp kx vx [⟨tg, it, [], 0⟩] scope pos) (.dk (xs.map kf) (xs.map g)) := fun H0 G H σ i s Q k => by
  refine wE.of (pe_dc hc hN pi_w ok pg_u pts_u pe_u pe_u hs) (hi H0 G H σ i s _ fun J G1 H1 g1 wk L hL => ?_)
  refine ⟨fun i m H' => m = xs.length - i ∧ i ≤ xs.length ∧ ∃ (G' : Hp) (kvs : List (Key × V)), Grow G1 H1 G' H' ∧ G' L = none ∧ H' L = some (.dK kvs) ∧ kvs.map (·.1) = (xs.take i).map kf ∧ RpA (wd X) G' (kvs.map (·.2)) ((xs.take i).map g),
    ⟨xs.length, by simp, Nat.zero_le _, G1, [], .hid g1.i hL, g1.i.back hL, upd_same, rfl, .nil⟩, ?_⟩
  rintro i m H' ⟨rfl, hi, G', kvs, g', nG, hD, ek, r⟩
  by_cases hlt : i < xs.length
  · refine .inr ⟨wk.go i H' (g'.g.trans g'.i) (by rw [List.length_map]; exact hlt), fun H' => ∃ (G' : Hp) (kvs : List (Key × V)), Grow G1 H1 G' H' ∧ G' L = none ∧ H' L = some (.dK kvs) ∧ kvs.map (·.1) = (xs.take (i + 1)).map kf ∧ RpA (wd X) G' (kvs.map (·.2)) ((xs.take (i + 1)).map g),
      fun H' p' => ⟨xs.length - (i + 1), by omega, rfl, hlt, p'⟩, fun x H'' y => ?_⟩
    obtain ⟨rfl, d0, hd0, rd⟩ := wk.yld i x H' H'' (g'.g.trans g'.i) (by rw [List.length_map]; exact hlt) y
    rw [List.getElem?_map] at hd0
    obtain ⟨d, hd, rfl⟩ := Option.map_eq_some_iff.mp hd0
    have hm : d ∈ xs := List.mem_of_getElem? hd
    have sw := (s.grow (g1.trans g')).wipe (own.map (·.2))
    intro s0 Hb Cb clb fpb
    refine hg d hm s0 Hb Cb clb fpb H0 G' _ _ x g'.i sw (rd.up g'.g) _ fun σ2 s2 n2 => ⟨?_, ?_⟩
    · rw [wipe_same (own.map (·.2)) (σ := wipe σ (own.map (·.2))) (by rw [s2.len, putS_len, sw.len]) fun j hj => n2 j fun z => ?_]
      · exact wipe_same _ (wipe_length _ _) fun j hj => wipe_out hj
      · obtain ⟨q, hq, rfl⟩ := List.mem_map.mp z
        exact hj (hw d hm q hq)
    · intro s1 Hb1 Cb1 clb1 fpb1
      refine (ets_nil (X := X.blk s1 Hb1 scope (compEnvC scope clb1 Cb1 X.env) fpb1)) H0 G' _ σ2 g'.i s2 _ fun G3 H3 g3 => ?_
      refine iteT ?_
      intro s4 Hb4 Cb4 clb4 fpb4
      refine hk d hm s4 Hb4 Cb4 clb4 fpb4 H0 G3 H3 σ2 g3.i (s2.grow g3) _ fun u G4 H4 g4 r4 => ?_
      intro s5 Hb5 Cb5 clb5 fpb5
      refine he d hm s5 Hb5 Cb5 clb5 fpb5 H0 G4 H4 σ2 g4.i (s2.grow (g3.trans g4)) _ fun y G5 H5 g5 r5 => ?_
      have g35 := g3.trans (g4.trans g5)
      have n5 := g35.off hD nG
      have eu := r4.key
      subst eu
      have en : valV kvs (kf d) = none := by
        unfold valV
        rw [Option.map_eq_none_iff, List.find?_eq_none]
        intro q hq z
        have z : q.1 = kf d := by simpa using z
        have q1 : q.1 ∈ (xs.take i).map kf := by rw [← ek]; exact List.mem_map_of_mem hq
        have nd2 : (((xs.take i) ++ [d]).map kf).Nodup := by
          rw [← take_snoc hd]
          exact nd.sublist (List.Sublist.map _ (List.take_sublist _ _))
        rw [List.map_append, List.nodup_append] at nd2
        exact nd2.2.2 _ q1 (kf d) (by simp) z
      refine ⟨kvs, kf d, rfl, g35.h _ _ hD, ?_, G5, kvs ++ [(kf d, y)], (g'.trans g35).mut hL n5, n5, by rw [putK_new _ en]; exact upd_same, ?_, ?_⟩
      · refine small ?_
        rw [← List.length_map (f := fun x : Key × V => x.1), ek, List.length_map]
        exact Nat.le_trans (by rw [List.length_take]; omega) hl
      · rw [take_snoc hd, List.map_append, List.map_append, ek]
        rfl
      · rw [take_snoc hd, List.map_append, List.map_append]
        exact (r.up g35.g).snoc r5
  · have e : i = xs.length := by omega
    subst e
    rw [List.take_length] at ek r
    refine .inl ⟨?_, ?_⟩
    · have z := wk.stop H' (g'.g.trans g'.i)
      rw [List.length_map] at z
      exact z
    · exact k _ (upd G' L (.dK kvs)) H' (((g1.trans g')).know (g1.h.back hL) hD) (.dk upd_same ek (r.up (Ex.new nG)))
end
end Fw
namespace Fw
open PySem PySem.Spec PyProof.Rows L2
section
variable {X : Cx} {ss : List Slot} {e a b c : Expr} {es : List Expr} {pos p p' p2 : Pos} {x : Str} {P : Post}
theorem cmp_neI {m n : Int} : CmpD X .NotEq (.int m) (.int n) (!decide (m = n)) := ⟨_, op_ne, fun G H u v i rx ry Q k => by
  cases rx
  cases ry
  exact ⟨rfl, Giv.here k i (by rw [show decide (V.int m = V.int n) = decide (m = n) from by simp]; exact .bl _)⟩⟩
theorem ee_neg {m : Int} (h : EE X ss a (.int m)) : EE X ss (.UnaryOp .USub a pos) (.int (-m)) := fun H0 G H σ i s Q k => wE.of (pe_un un_neg pe_w) (h H0 G H σ i s _ fun v G1 H1 g1 r1 => by
  cases r1
  exact ⟨_, rfl, k _ G1 H1 g1 (.int _)⟩)
/-- x[b], x an owned list -/
theorem ee_ixO (i : Nat) {q : Addr} {ds : List D} {k : Int} {d : D} (hs : ss[i]? = some (.ow q ds)) (hb : EE X ss b (.int k)) (hd : atI ds k = some d) (hN : X.N[i]? = some x := by first | kernel_rfl! | rfl) (hv : Vis X.env.scope x := by first | exact Or.inl (by kernel_rfl!) | exact Or.inr (Or.inl (by kernel_rfl!)) | exact Or.inr (Or.inr (by kernel_rfl!)) | exact Or.inl rfl | exact Or.inr (Or.inl rfl) | exact Or.inr (Or.inr rfl)) (hdb : (x == ("__debug__" : Str)) = false := by decide)
    (hcd : (x == ("__classdict__" : Str)) = false := by decide) (hpl : PlainIx b := by intro _ _; rfl) : EE X ss (.Subscript (.Name x p') b pos) d := fun H0 G H σ i0 s Q kk => by
  obtain ⟨v, e, rfl, vs, hp, r⟩ := s.got hs (by intro z; cases z)
  refine wE.of (pe_ix ix_list (pe_var hN hv hdb hcd) pe_w hpl) ⟨_, e, hb H0 G H σ i0 s _ fun y G1 H1 g1 r1 => ?_⟩
  cases r1
  obtain ⟨j, e1, e2, _⟩ := atI_get hd
  obtain ⟨u, e3, r3⟩ := r.get e2
  refine ⟨_, _, _, u, rfl, rfl, SqL.of (g1.h _ _ hp), ?_, kk u G1 H1 g1 (r3.up g1.g)⟩
  unfold atI at hd ⊢
  rw [r.length]
  cases e : ixN ds.length _ with
  | none => rw [e] at hd; cases hd
  | some j' =>
    rw [e] at hd
    have z := (ixN_seq e).1
    rw [e1] at z
    cases z
    exact e3
/-- len(x), x an owned list -/
theorem ee_lenO (i : Nat) {q : Addr} {ds : List D} (hm : X.mg "len" = none) (hs : ss[i]? = some (.ow q ds)) (hN : X.N[i]? = some x := by first | kernel_rfl! | rfl) (hv : Vis X.env.scope x := by first | exact Or.inl (by kernel_rfl!) | exact Or.inr (Or.inl (by kernel_rfl!)) | exact Or.inr (Or.inr (by kernel_rfl!)) | exact Or.inl rfl | exact Or.inr (Or.inl rfl) | exact Or.inr (Or.inr rfl)) (hdb : (x == ("__debug__" : Str)) = false := by decide)
    (hcd : (x == ("__classdict__" : Str)) = false := by decide) (hg : Gl X "len" := by first | kernel_rfl! | rfl) (he : starEach [.Name x p'] X.env = (false, eval (.Name x p') X.env) :: starEach [] X.env := by first | kernel_rfl! | rfl) (hpl : (backTo pos (starEach [] X.env)).any (·.1) = false := by first | kernel_rfl! | rfl) : EE X ss (.Call (.Name "len" p) [.Name x p'] [] pos) (.int ds.length) := fun H0 G H σ i0 s Q kk => by
  obtain ⟨v, e, rfl, vs, hp, r⟩ := s.got hs (by intro z; cases z)
  refine wE.of (pe_callB call_len_seq hg hm PySem.boot_len (pa_cons (pe_var hN hv hdb hcd) pa_nil he) (by decide) (by decide) he hpl) ⟨_, e, ⟨_, _, rfl, .inl (SqL.of hp), kk _ G H (.refl i0) (by rw [r.length]; exact .int _)⟩⟩
/-- the value of an owned list, in a test -/
theorem sd_set {A : List Stmt} (ss' : List Slot) (h : ss = ss') (k : SD X ss' A P) : SD X ss A P := h ▸ k
end
end Fw
namespace Fw
open PySem PySem.Spec PyProof.Rows L2
/-! ### keys -/
mutual
def D.kok : Nat → D → Bool
  | _, .non => true
  | _, .int _ => true
  | _, .str _ => true
  | n + 1, .tup xs => D.koks n xs
  | _, _ => false
def D.koks : Nat → List D → Bool
  | _, [] => true
  | n, d :: ds => D.kok n d && D.koks n ds
end
def KeyIs (X : Cx) (H : Hp) (t : Addr) (k : NestedKey) : Prop := ∀ pins σ s, Inv X pins σ H s → (nestedKind X.prog X.w).is s.heap k t
section
variable {X : Cx} {H : Hp} {pins : List (Addr × Obj)} {σ : L2.St} {s : Shared}
mutual
theorem Rp.nis (I : Inv X pins σ H s) : ∀ (n : Nat) (d : D) (v : V) (u : Value), D.kok n d = true → Rp (wd X) H v d → RelV v u → NestedIs s.heap d.nk u ∧ d.nk.depth ≤ n
  | _, .non, _, u, _, h, r => by
    cases h
    have r : u = .none := r
    subst r
    exact ⟨.none, Nat.zero_le _⟩
  | _, .int i, _, u, _, h, r => by
    cases h
    obtain ⟨t, rfl⟩ := r
    exact ⟨.int i t, Nat.zero_le _⟩
  | _, .str x, _, u, _, h, r => by
    cases h
    obtain ⟨t, rfl⟩ := r
    exact ⟨.text x t, Nat.zero_le _⟩
  | 0, .tup ds, _, _, o, h, _ => by simp [D.kok] at o
  | n + 1, .tup ds, _, u, o, h, r => by
    cases h with
    | tup a b =>
      have r : u = .ref _ := r
      subst r
      obtain ⟨its, rv, ⟨o', h1, h2, m, h3⟩, hz⟩ := I.tuple a
      obtain ⟨q1, q2⟩ := RpA.nis I n ds _ its (by simpa [D.kok] using o) b rv
      refine ⟨.tup h1 h2 h3 (by simpa using q1), ?_⟩
      show (NestedKey.tup (D.nks ds)).depth ≤ n + 1
      simp only [NestedKey.depth]
      omega
  | _, .bl b, _, _, o, _, _ => by simp [D.kok] at o
  | _, .lst _, _, _, o, _, _ => by simp [D.kok] at o
  | _, .dk _ _, _, _, o, _, _ => by simp [D.kok] at o
  | _, .ins _ _ _, _, _, o, _, _ => by simp [D.kok] at o
  | _, .dt _ _, _, _, o, _, _ => by simp [D.kok] at o
  | _, .sq _, _, _, o, _, _ => by simp [D.kok] at o
theorem RpA.nis (I : Inv X pins σ H s) : ∀ (n : Nat) (ds : List D) (vs : List V) (us : List Value), D.koks n ds = true → RpA (wd X) H vs ds → Vals vs us → NestedAll s.heap (D.nks ds) us ∧ NestedKey.depthAll (D.nks ds) ≤ n
  | _, [], _, _, _, h, r => by
    cases h
    cases r
    exact ⟨.nil, Nat.zero_le _⟩
  | n, d :: ds, _, _, o, h, r => by
    rw [D.koks, Bool.and_eq_true] at o
    cases h with
    | cons a b =>
      cases r with
      | cons ra rb =>
        obtain ⟨p1, p2⟩ := Rp.nis I n d _ _ o.1 a ra
        obtain ⟨q1, q2⟩ := RpA.nis I n ds _ _ o.2 b rb
        refine ⟨.cons p1 q1, ?_⟩
        simp only [D.nks, NestedKey.depthAll]
        omega
end
theorem Rp.keyIs {n : Nat} {d : D} {t : Addr} (h : Rp (wd X) H (.ref t) d) (o : D.kok n d = true) (hn : n ≤ 8) : KeyIs X H t d.nk := fun pins σ s I => by
  obtain ⟨a, b⟩ := Rp.nis I n d (.ref t) (.ref t) o h rfl
  exact ⟨a, Nat.le_trans b hn⟩
end
/-! ### the dict in a state -/
theorem kyP_stable {W : Wd} {a : Addr} {xs : List (NestedKey × Addr × V)} (h1 h2 : Heap) (p : KyP W a xs h1) (k : ∀ o, h1.get? a = some o → h2.get? a = some o) : KyP W a xs h2 := by
  obtain ⟨z, m, nd, o, es, ep, ys, ho, r⟩ := p
  exact ⟨z, m, nd, o, es, ep, ys, k o ho, r⟩
theorem kyO_new {P : Program} {w : World} {H : Hp} {W : Wd} {h : Heap} {a : Addr} {xs : List (NestedKey × Addr × V)} (p : KyP W a xs h) : ObjOk P w H h a (KyO W a xs) := by
  have q := p
  obtain ⟨_, _, _, o, _, _, _, ho, _⟩ := q
  exact ⟨p, ⟨o, ho⟩, fun h1 h2 p k => kyP_stable h1 h2 p k⟩
/-- a dict of nested keys, known or owned -/
def DyGet (X : Cx) (H : Hp) (a : Addr) (xs : List (NestedKey × Addr × V)) : Prop := (H a = some (KyO (wd X) a xs) ∨ ∃ o, H a = some (.frz o (KyO (wd X) a xs))) ∧ ∀ x ∈ xs, KeyIs X H x.2.1 x.1
abbrev KyR : NestedKey × Addr × V → NestedKey × Addr × Value → Prop := fun x y => x.1 = y.1 ∧ x.2.1 = y.2.1 ∧ RelV x.2.2 y.2.2
theorem paired_mem {α β : Type} {F : α → β → Prop} : ∀ {l : List α} {m : List β}, Paired F l m → ∀ y ∈ m, ∃ x ∈ l, F x y
  | _, _, .nil, y, h => by cases h
  | _, _, .cons r t, y, h => by
    rcases List.mem_cons.mp h with rfl | h
    · exact ⟨_, List.mem_cons_self, r⟩
    · obtain ⟨x, hx, q⟩ := paired_mem t y h
      exact ⟨x, List.mem_cons_of_mem _ hx, q⟩
theorem paired_keys : ∀ {l : List (NestedKey × Addr × V)} {m : List (NestedKey × Addr × Value)}, Paired KyR l m → l.map (·.1) = m.map (·.1)
  | _, _, .nil => rfl
  | _, _, .cons r t => by rw [List.map_cons, List.map_cons, r.1, paired_keys t]
def atV (xs : List (NestedKey × Addr × V)) (k : NestedKey) : Option V := (xs.find? fun x => decide (x.1 = k)).map (·.2.2)
theorem paired_at {k : NestedKey} : ∀ {l : List (NestedKey × Addr × V)} {m : List (NestedKey × Addr × Value)}, Paired KyR l m → (atV l k = none → atKey m k = none) ∧ ∀ v, atV l k = some v → ∃ p, atKey m k = some p ∧ RelV v p.2
  | _, _, .nil => ⟨fun _ => rfl, fun v h => by cases h⟩
  | x :: l, y :: m, .cons r t => by
    obtain ⟨ih1, ih2⟩ := paired_at (k := k) t
    unfold atV atKey
    rw [List.find?_cons, List.find?_cons, ← r.1]
    by_cases h : x.1 = k
    · rw [decide_eq_true h]
      exact ⟨(fun z => by cases z), (fun v z => by cases z; exact ⟨_, rfl, r.2.2⟩)⟩
    · rw [decide_eq_false h]
      exact ⟨ih1, ih2⟩
section
variable {X : Cx} {H : Hp} {pins : List (Addr × Obj)} {σ : L2.St} {s : Shared} {a : Addr} {xs : List (NestedKey × Addr × V)}
theorem dy_at (I : Inv X pins σ H s) (g : DyGet X H a xs) : ∃ ys, Paired KyR xs ys ∧ s.heap.DictOfH (nestedKind X.prog X.w) a ys ∧ (a == sysModules) = false ∧ xs.length ≤ sizeLine := by
  have p : KyP (wd X) a xs s.heap := by
    rcases g.1 with h | ⟨o, h⟩
    · exact (I.hok a _ h).1
    · exact (I.hok a _ h).2.1
  obtain ⟨z, m, nd, o, es, ep, ys, ho, he, hd, pr, hes⟩ := p
  refine ⟨ys, pr, ⟨o, es, ep, ho, he, hd, hes, fun y hy => ?_, by rw [← paired_keys pr]; exact nd⟩, m, z⟩
  obtain ⟨x, hx, r1, r2, _⟩ := paired_mem pr y hy
  rw [← r1, ← r2]
  exact g.2 x hx pins σ s I
end
section
variable {X : Cx} {ss : List Slot} {e b c o : Expr} {es : List Expr} {pos p p' p2 tpos : Pos} {x : Str} {P : Post}
theorem rm8 {A : Around} (hu : A.units + 64 < cLine) : A.in1.units + 8 < cLine := by
  show A.units + 1 + 8 < cLine
  omega
/-- k not in d -/
def rNinKy (X : Cx) : R2 := fun x y H Q => ∃ t a xs k, x = .ref t ∧ y = .ref a ∧ DyGet X H a xs ∧ KeyIs X H t k ∧ Q (.bl (!(atV xs k).isSome)) H
theorem or_ninKy (hu : X.A.units + 64 < cLine) : OpR X (compareOp .NotIn) (rNinKy X) := by
  intro pins s σ H x y v u Q I rx ry h
  obtain ⟨t, a, xs, k, rfl, rfl, g, hk, q⟩ := h
  obtain rfl : v = Value.ref t := rx
  obtain rfl : u = Value.ref a := ry
  obtain ⟨ys, pr, hm, hs, _⟩ := dy_at I g
  refine notIn_keyed (knd := nestedKind X.prog X.w) (k := k) (rm8 hu) (hk pins σ s I) hs ⟨ys, hm, rfl⟩ ?_
  rw [valueAt_pairsH, Option.isSome_map]
  have e : (atKey ys k).isSome = (atV xs k).isSome := by
    obtain ⟨h1, h2⟩ := paired_at (k := k) pr
    cases h : atV xs k with
    | none => rw [h1 h]; rfl
    | some v =>
      obtain ⟨p, hp, _⟩ := h2 v h
      rw [hp]
      rfl
  rw [e]
  exact ⟨.bl (!(atV xs k).isSome), H, I.tok _, rfl, q⟩
/-- d[k] -/
def tKyGet (X : Cx) (td ty : TE) : TE := fun σ H Q => td σ H fun x H1 => ty σ H1 fun y H2 => ∃ a t xs k v, x = .ref a ∧ y = .ref t ∧ DyGet X H2 a xs ∧ KeyIs X H2 t k ∧ atV xs k = some v ∧ Q v H2
theorem pe_kyget {td ty : TE} (hu : X.A.units + 64 < cLine) (ho : PE X o td) (hi : PE X b ty) (hs : NoSl b) : PE X (.Subscript o b pos) (tKyGet X td ty) := by
  refine ⟨fun pins s σ H Q I h => ?_⟩
  refine subD_of PySem.F.slot_dict_getitem.lookup hs (thn (ho.run pins s σ H _ I h) fun u s1 ⟨x, H1, I1, rx, q1⟩ => thn (hi.run pins s1 σ H1 _ I1 q1) fun iv s2 ⟨y, H2, I2, ry, a, t, xs, k, v, ex, ey, g, hk, hv, q2⟩ => ?_)
  subst ex
  subst ey
  obtain rfl : u = Value.ref a := rx
  obtain rfl : iv = Value.ref t := ry
  obtain ⟨ys, pr, hm, hsy, _⟩ := dy_at I2 g
  obtain ⟨p, hp, rp⟩ := (paired_at (k := k) pr).2 v hv
  refine ⟨hm.typeIs, getItem_keyed (knd := nestedKind X.prog X.w) (k := k) (v := p.2) (rm8 hu) (hk pins σ s2 I2) ⟨ys, hm, rfl⟩ ?_ ⟨v, H2, I2.tok _, rp, q2⟩⟩
  rw [valueAt_pairsH, hp]
  rfl
/-- d[k] = v, a new key -/
def sKyPut (X : Cx) (td ty tv : TE) : TS := fun D σ H => tv σ H fun v H1 => td σ H1 fun x H2 => ty σ H2 fun y H3 => ∃ a t xs k, x = .ref a ∧ y = .ref t ∧ H3 a = some (KyO (wd X) a xs) ∧ (∀ x ∈ xs, KeyIs X H3 x.2.1 x.1) ∧ KeyIs X H3 t k ∧ atV xs k = none ∧ xs.length < sizeLine ∧ D.nx σ (upd H3 a (KyO (wd X) a (xs ++ [(k, t, v)])))
theorem atV_none {xs : List (NestedKey × Addr × V)} {k : NestedKey} (h : atV xs k = none) : k ∉ xs.map (·.1) := fun z => by
  obtain ⟨x, hx, e⟩ := List.mem_map.mp z
  unfold atV at h
  rw [Option.map_eq_none_iff, List.find?_eq_none] at h
  exact h x hx (by simp [e])
theorem paired_snoc {α β : Type} {F : α → β → Prop} {x : α} {y : β} (r : F x y) : ∀ {l : List α} {m : List β}, Paired F l m → Paired F (l ++ [x]) (m ++ [y])
  | _, _, .nil => .cons r .nil
  | _, _, .cons q t => .cons q (paired_snoc r t)
theorem ps_kyput {td ty tv : TE} {value : Expr} (hu : X.A.units + 64 < cLine) (ho : PE X o td) (hi : PE X b ty) (hv : PE X value tv) (hs : swapsWith value (some (.Subscript o b p')) pos.line X.env = pure false) :
    PS X (.Assign [.Subscript o b p'] value pos) (sKyPut X td ty tv) := by
  refine ⟨fun pins s σ H D I h => ?_⟩
  refine wpAny_Assign_Subscript (thn (hv.run pins s σ H _ I h) fun r s1 ⟨v, H1, I1, rv, q1⟩ => thn (ho.run pins s1 σ H1 _ I1 q1) fun u s2 ⟨x, H2, I2, rx, q2⟩ => thn (hi.run pins s2 σ H2 _ I2 q2) fun iv s3 ⟨y, H3, I3, ry, a, t, xs, k, ex, ey, ha, hks, hk, hn, hl, q3⟩ => ?_) hs
  subst ex
  subst ey
  obtain rfl : u = Value.ref a := rx
  obtain rfl : iv = Value.ref t := ry
  obtain ⟨ys, pr, hm, hsy, z⟩ := dy_at I3 ⟨.inl ha, hks⟩
  have hky : atKey ys k = none := (paired_at (k := k) pr).1 hn
  have hlen : xs.length = ys.length := Paired.length pr
  refine wpAny_setItem_heap (hsz := by rw [← hlen]; exact z) (knd := nestedKind X.prog X.w) (k := k) (rm8 hu) (hk pins σ s3 I3) hm fun h' hm' hs' => ?_
  rw [storedH_new hky] at hm'
  obtain ⟨o', es', ep', ho', he', hd', hes', _, _⟩ := hm'
  refine ⟨σ, _, d_write I3 (by rw [ha]; trivial) hs' ⟨o', ho'⟩ (kyO_new ⟨?_, hsy, ?_, o', es', ep', _, ho', he', hd', paired_snoc ⟨rfl, rfl, rv⟩ pr, hes'⟩), q3⟩
  · rw [List.length_append, List.length_singleton]
    omega
  · have pz : KyP (wd X) a xs s3.heap := (I3.hok a _ ha).1
    rw [List.map_append, List.nodup_append]
    refine ⟨pz.2.2.1, by simp, fun c hc d hd z => ?_⟩
    have : d = k := by simpa using hd
    rw [z, this] at hc
    exact atV_none hn hc
/-- len(d) -/
def rLenKy (X : Cx) : List V → Hp → VK → Prop := fun vs H Q => ∃ a xs, vs = [.ref a] ∧ DyGet X H a xs ∧ Q (.int xs.length) H
theorem cr_lenKy : CallR X (.builtin "len") (rLenKy X) := by
  intro pins s σ H vs us Q I r h
  obtain ⟨a, xs, rfl, g, q⟩ := h
  obtain ⟨u, rfl, rx⟩ := vals1 r
  obtain rfl : u = .ref a := rx
  obtain ⟨ys, pr, hm, hs, z⟩ := dy_at I g
  have hl : xs.length = ys.length := Paired.length pr
  refine call_len_dictH hs hm (by rw [← hl]; rw [sizeLine_eq] at z; omega) ?_
  rw [← hl]
  exact ⟨.int xs.length, H, I.tok _, ⟨_, rfl⟩, q⟩
/-- {k: v} -/
def tKyDisp (X : Cx) (tk tv : TE) : TE := fun σ H Q => ∀ p, H p = none → tk σ (upd H p (KyO (wd X) p [])) fun x H1 => tv σ H1 fun y H2 => H2 p = some (KyO (wd X) p []) ∧ ∃ t k, x = .ref t ∧ KeyIs X H2 t k ∧ Q (.ref p) (upd H2 p (KyO (wd X) p [(k, t, y)]))
theorem pe_kydisp {tk tv : TE} (hu : X.A.units + 64 < cLine) (hk : PE X b tk) (hv : PE X c tv) : PE X (.Dict [some b] [c] pos) (tKyDisp X tk tv) := by
  refine ⟨fun pins s σ H Q I q => ?_⟩
  have hn := I.hok.fresh (Nat.le_refl s.heap.objs.size)
  have hm : (s.heap.objs.size == sysModules) = false := beq_eq_false_iff_ne.mpr (Nat.ne_of_gt I.big)
  have I1 := I.laid (a := s.heap.objs.size) (o := KyO (wd X) s.heap.objs.size []) (h' := s.heap.push { cls := .type "dict", data := .dict #[] }) (t' := s.toks) (fun _ _ q => Heap.get?_push_of_some _ q) (Nat.le_refl _) (kyO_new ⟨Nat.zero_le _, hm, .nil, _, #[], 0, [], Heap.get?_push_size _ rfl, ⟨rfl, rfl, rfl⟩, rfl, .nil, rfl⟩)
  rw [arm_eval_Dict, zip_pairTrees [some b] [c] X.env pos rfl rfl, dictDisplay_pairs _ (by simp [pairTrees]) (by simp [pairTrees])]
  refine wpAny_bind (wpAny_standAt (wpAny_bind (wpAny_subDictH (knd := nestedKind X.prog X.w) (show X.A.units + 8 < cLine by omega) (by simp [pairTrees]) ?_)))
  refine pairTrees_cons_walk (thn (hk.run pins _ σ _ _ I1 (q _ hn)) fun u s1 ⟨x, H1, I2, rx, q1⟩ => thn (hv.run pins s1 σ H1 _ I2 q1) fun w2 s2 ⟨y, H2, I3, ry, e, t, k, ex, hki, q2⟩ => pairTrees_nil_walk ?_)
  subst ex
  obtain rfl : u = Value.ref t := rx
  have pz : KyP (wd X) s.heap.objs.size [] s2.heap := (I3.hok _ _ e).1
  obtain ⟨_, _, _, o, es, ep, ys, ho, he, hd, pr, hes⟩ := pz
  cases pr
  refine ⟨[(k, t, w2)], ⟨rfl, rfl, hki pins σ s2 I3, trivial⟩, ⟨o, es, ep, ho, he, hd, hes, fun _ h => (by cases h), .nil⟩, fun h' tk' hm' hs' => wpAny_pure ?_⟩
  obtain ⟨o', es', ep', ho', he', hd', hes', _, _⟩ := hm'
  exact ⟨.ref _, _, d_write I3 (by rw [e]; trivial) hs' ⟨o', ho'⟩ (kyO_new ⟨by show 1 ≤ sizeLine; decide, hm, by simp, o', es', ep', [(k, t, w2)], ho', he', hd', .cons ⟨rfl, rfl, ry⟩ .nil, hes'⟩), rfl, q2⟩
end
end Fw
namespace Fw
open PySem PySem.Spec PyProof.Rows L2
/-! ### walk over the keys -/
def Itky (W : Wd) (d : Addr) (o : Obj) (xs : List (NestedKey × Addr × V)) : It :=
  ⟨fun i H => H d = some (.frz o (KyO W d xs)) ∧ i < xs.length, fun i H x H' => H' = H ∧ ∃ k q v, xs[i]? = some (k, q, v) ∧ x = .ref q, fun i H => H d = some (.frz o (KyO W d xs)) ∧ xs.length ≤ i⟩
theorem paired_get2 {α β : Type} {F : α → β → Prop} : ∀ {l : List α} {m : List β} {i : Nat} {x : α}, Paired F l m → l[i]? = some x → ∃ y, m[i]? = some y ∧ F x y
  | _, _, _, _, .nil, h => by cases h
  | _, _, 0, _, .cons r t, h => by cases h; exact ⟨_, rfl, r⟩
  | _, _, i + 1, x, .cons r t, h => by
    obtain ⟨y, a, b⟩ := paired_get2 (i := i) t (by simpa using h)
    exact ⟨y, by simpa using a, b⟩
section
variable {X : Cx} {H : Hp} {pins : List (Addr × Obj)} {σ : L2.St} {s : Shared} {d : Addr} {o : Obj} {xs : List (NestedKey × Addr × V)}
theorem frzKy (I : Inv X pins σ H s) (h : H d = some (.frz o (KyO (wd X) d xs))) : (d == sysModules) = false ∧ s.heap.get? d = some o ∧ o.ExactDict ∧ ∃ (es : Array DictEntry) (ep : Nat), o.data = .dict es ep ∧ es.size = xs.length ∧ xs.length ≤ sizeLine ∧
    ∀ (i : Nat) (x : NestedKey × Addr × V), xs[i]? = some x → ∃ en : DictEntry, es[i]? = some en ∧ en.key = .ref x.2.1 := by
  obtain ⟨hd, p, _⟩ := I.hok d _ h
  obtain ⟨z, m, nd, o', es, ep, ys, ho, he, hdt, pr, hes⟩ := p
  have eo : o' = o := by
    have ho : s.heap.get? d = some o' := ho
    rw [hd] at ho
    exact (Option.some.inj ho).symm
  subst eo
  refine ⟨m, hd, he, es, ep, hdt, ?_, z, fun i x hx => ?_⟩
  · have l1 : es.size = ys.length := size_of_entries hes
    have l2 : xs.length = ys.length := Paired.length pr
    omega
  · obtain ⟨y, hy, r1, r2, r3⟩ := paired_get2 pr hx
    have q := entry_at hes i
    rw [hy] at q
    refine ⟨_, q, ?_⟩
    show Value.ref y.2.1 = _
    rw [← r2]
end
theorem turn_ky {P : Program} {w : World} {K : PySem.W.Frag} {tg : Expr} {d : Addr} {o : Obj} {es : Array DictEntry} {ep : Nat} {xs : List (NestedKey × Addr × V)} (it : Addr) (hod : o.data = .dict es ep) : Turn P w K tg (Itky ⟨P, w, K⟩ d o xs) [it] it (fun i h => h.IsKeyIter it d i xs.length ep) where
  mem := List.mem_singleton.mpr rfl
  obj := fun i h st b hb => by
    rw [List.mem_singleton.mp hb]
    obtain ⟨oi, e, c, dd⟩ := st
    exact ⟨oi, e, fun v z => by rw [dd] at z; cases z⟩
  keep := fun i h h' st k => st.at fun oi e => k it (List.mem_singleton.mpr rfl) oi e
  item := by
    intro X hP hw hK hc i pins s σ H E I hf st hg
    subst hP hw hK
    obtain ⟨hd, hi⟩ := hg
    have hff := hf it (List.mem_singleton.mpr rfl)
    obtain ⟨hs, hgd, hx, es', ep', hdt, hsz, hz, ent⟩ := frzKy I hd
    have hee : es = es' ∧ ep = ep' := by
      rw [hod] at hdt
      cases hdt
      exact ⟨rfl, rfl⟩
    obtain ⟨rfl, rfl⟩ := hee
    obtain ⟨en, hen, hkey⟩ := ent i xs[i] (List.getElem?_eq_getElem hi)
    refine next_key_item st hgd hdt hsz hen fun h' st' sb => ?_
    have I1 : Inv X pins σ H { s with heap := h' } := I.turned (t' := s.toks) (fun b ob hb e => (sb.2 b hb).trans e) hff.1 hff.2.1 hff.2.2.2.1 hff.2.2.2.2.1 hff.2.2.2.2.2
    obtain ⟨oi, e, c, dd⟩ := id st'
    exact ⟨en.key, rfl, go_of (s := { s with heap := h' }) e c dd (by decide) ⟨.ref xs[i].2.1, H, I1, hkey, ⟨rfl, xs[i].1, xs[i].2.1, xs[i].2.2, List.getElem?_eq_getElem hi, rfl⟩, st', fun b hb => (hf b hb).1⟩⟩
  done := by
    intro X hP hw hK hc i pins s σ H E I hf st hg
    subst hP hw hK
    obtain ⟨hd, hi⟩ := hg
    have hff := hf it (List.mem_singleton.mpr rfl)
    obtain ⟨hs, hgd, hx, es', ep', hdt, hsz, hz, ent⟩ := frzKy I hd
    have hee : es = es' ∧ ep = ep' := by
      rw [hod] at hdt
      cases hdt
      exact ⟨rfl, rfl⟩
    obtain ⟨rfl, rfl⟩ := hee
    exact next_key_end (I.ok.hd hc) st hgd hdt hsz hi fun h' eb => ⟨rfl, I.turned (t' := s.toks) (fun b ob hb e => eb b ob hb e) hff.1 hff.2.1 hff.2.2.2.1 hff.2.2.2.2.1 hff.2.2.2.2.2⟩
  self := fun A i s Q E st h => by
    refine wpAny_pyIter_slot st.typeIs F.slot_dict_keyiterator_iter (wpAny_call_entry F.slot_dict_keyiterator_iter st.typeIs F.entry_dict_keyiterator_iter ?_ (F.args_dict_keyiterator_iter_1 _))
    show wpAny _ _ (ret (.ref it)) _ _ s
    exact wpAny_pure ⟨_, rfl, "dict_keyiterator", _, st.typeIs, F.slot_dict_keyiterator_next.lookup, h⟩
def iKy (X : Cx) (td : TE) : TI := fun σ H R => td σ H fun x H1 => ∃ d o xs, x = .ref d ∧ H1 d = some (.frz o (KyO (wd X) d xs)) ∧ R (Itky (wd X) d o xs) H1
theorem pi_ky {X : Cx} {tg e : Expr} {td : TE} (he : PE X e td) : PI X tg e (iKy X td) := by
  refine ⟨fun pins s σ H R I h => ?_⟩
  refine thn (he.run pins s σ H _ I h) fun u s1 ⟨x, H1, I1, rx, d, o, xs, ex, hd, q⟩ => ?_
  subst ex
  obtain rfl : u = Value.ref d := rx
  obtain ⟨hs, hgd, hx, es, ep, hdt, hsz, hz, ent⟩ := frzKy I1 hd
  refine iter_keys hs hgd hx hdt (pi_one (tk := s1.toks) I1 _ (turn_ky _ hdt) ⟨_, Heap.get?_push_size _ rfl, rfl, ?_⟩ q)
  rw [hsz]
  rfl
/-- list(d) -/
def rListKy (X : Cx) : List V → Hp → VK → Prop := fun vs H Q => ∃ d o xs, vs = [.ref d] ∧ H d = some (.frz o (KyO (wd X) d xs)) ∧ ∀ p, H p = none → Q (.ref p) (upd H p (.lst (xs.map fun x => .ref x.2.1)))
theorem vals_refs : ∀ {us : List Value} {xs : List (NestedKey × Addr × V)}, us.length = xs.length → (∀ (j : Nat) (v : Value), us[j]? = some v → ∃ x, xs[j]? = some x ∧ v = .ref x.2.1) → Vals (xs.map fun x => V.ref x.2.1) us
  | [], [], _, _ => .nil
  | u :: us, x :: xs, hl, h => by
    obtain ⟨x', e1, e2⟩ := h 0 u rfl
    have e1' : x = x' := Option.some.inj e1
    subst e1'
    refine .cons e2 (vals_refs (by simpa using hl) fun j v e => ?_)
    obtain ⟨y, a, b⟩ := h (j + 1) v (by simpa using e)
    exact ⟨y, by simpa using a, b⟩
  | [], _ :: _, hl, _ => by simp at hl
  | _ :: _, [], hl, _ => by simp at hl
theorem cr_listKy {X : Cx} (hc : X.calm = true) : CallR X (.type "list") (rListKy X) := by
  intro pins s σ H vs us Q I r h
  obtain ⟨d, o, xs, rfl, hd, q⟩ := h
  obtain ⟨u, rfl, rx⟩ := vals1 r
  obtain rfl : u = .ref d := rx
  obtain ⟨hs, hgd, hx, es, ep, hdt, hsz, hz, ent⟩ := frzKy I hd
  refine PySem.W.kdl_call (KdlSrc.rawDict (es := es) (ep := ep) hs) (I.ok.hd hc) ⟨o, hgd, hx, hdt⟩ (by rw [hsz]; exact hz) fun h' tk acc c' hk hD hacc => ?_
  have hv : Vals (xs.map fun x => V.ref x.2.1) acc.toList := vals_refs (by rw [Array.length_toList]; exact hacc.1.trans hsz) fun j v e => by
    obtain ⟨hj, rfl⟩ := hacc.2 j v (by rw [← Array.getElem?_toList]; exact e)
    have hj' : j < xs.length := by rw [← hsz]; exact hj
    obtain ⟨en, h1, h2⟩ := ent j xs[j] (List.getElem?_eq_getElem hj')
    refine ⟨xs[j], List.getElem?_eq_getElem hj', ?_⟩
    have : es[j] = en := by
      rw [Array.getElem?_eq_getElem hj] at h1
      exact Option.some.inj h1
    rw [this]
    exact h2
  exact ⟨.ref s.heap.objs.size, upd H s.heap.objs.size (.lst (xs.map fun x => .ref x.2.1)), I.laid (t' := tk) hk (Nat.le_refl _)
    (show ObjOk X.prog X.w _ _ _ (.lst (xs.map fun x => .ref x.2.1)) from ⟨by rw [List.length_map]; exact hz, acc.toList, c', hv, by rw [Array.toArray_toList]; exact hD⟩), rfl, q _ (I.hok.fresh (Nat.le_refl _))⟩
/-! ### data -/
def dtN (k : NestedKey) : List NestedKey → List D → Option D
  | n :: ns, d :: ds => if n = k then some d else dtN k ns ds
  | _, _ => none
theorem RpA.dtn {W : Wd} {G : Hp} {k : NestedKey} : ∀ {xs : List (NestedKey × Addr × V)} {ns : List NestedKey} {ds : List D}, xs.map (·.1) = ns → RpA W G (xs.map (·.2.2)) ds → (dtN k ns ds = none → atV xs k = none) ∧ ∀ d, dtN k ns ds = some d → ∃ v, atV xs k = some v ∧ Rp W G v d
  | [], _, _, e, _ => by subst e; exact ⟨fun _ => rfl, fun d h => by simp [dtN] at h⟩
  | x :: r, _, _, e, hr => by
    subst e
    cases hr with
    | cons a t =>
      obtain ⟨ih1, ih2⟩ := RpA.dtn (k := k) (xs := r) rfl t
      rw [List.map_cons, dtN]
      unfold atV
      rw [List.find?_cons]
      by_cases hn : x.1 = k
      · rw [if_pos hn, decide_eq_true hn]
        exact ⟨fun h => (by cases h), fun d h => (by cases h; exact ⟨_, rfl, a⟩)⟩
      · rw [if_neg hn, decide_eq_false hn]
        exact ⟨ih1, ih2⟩
theorem keys_is {X : Cx} {H : Hp} : ∀ {xs : List (NestedKey × Addr × V)} {ks : List D}, RpA (wd X) H (xs.map fun x => .ref x.2.1) ks → xs.map (·.1) = D.nks ks → D.koks 8 ks = true → ∀ x ∈ xs, KeyIs X H x.2.1 x.1
  | [], _, _, _, _, x, h => by cases h
  | y :: r, ks, hr, e, o, x, h => by
    cases ks with
    | nil => cases hr
    | cons d ds =>
      rw [D.koks, Bool.and_eq_true] at o
      cases hr with
      | cons a t =>
        rw [List.map_cons, D.nks, List.cons.injEq] at e
        rcases List.mem_cons.mp h with rfl | h
        · rw [e.1]
          exact Rp.keyIs a o.1 (Nat.le_refl _)
        · exact keys_is t e.2 o.2 x h
section
variable {X : Cx} {ss : List Slot} {a b c e : Expr} {es rest : List Expr} {pos p p' p2 tpos : Pos} {x : Str} {P : Post}
/-- before[k] -/
theorem ee_dtget {ks vs : List D} {k d : D} (hu : X.A.units + 64 < cLine) (ha : EE X ss a (.dt ks vs)) (hb : EE X ss b k) (hk : ∃ ts, k = .tup ts) (ok : D.koks 8 ks = true) (okk : D.kok 8 k = true) (hd : dtN k.nk (D.nks ks) vs = some d) (hs : NoSl b := by intro _ _; rfl) : EE X ss (.Subscript a b pos) d := fun H0 G H σ i s Q kk =>
  wE.of (pe_kyget hu pe_w pe_w hs) (ha H0 G H σ i s _ fun v G1 H1 g1 r1 => hb H0 G1 H1 σ g1.i (s.grow g1) _ fun u G2 H2 g2 r2 => by
    cases r1 with
    | dt z e1 r r' =>
      rename_i a0 o0 xs
      obtain ⟨ts, rfl⟩ := hk
      obtain ⟨v, h1, h2⟩ := (RpA.dtn (k := (D.tup ts).nk) e1 r').2 d hd
      cases r2 with
      | tup w r2 =>
        refine ⟨a0, _, xs, (D.tup ts).nk, v, rfl, rfl, ⟨.inr ⟨o0, g2.i _ _ (g2.g _ _ z)⟩, keys_is ((r.up g2.g).up g2.i) e1 ok⟩, Rp.keyIs ((Rp.tup w r2).up g2.i) okk (Nat.le_refl _), h1, kk v G2 H2 (g1.trans g2) (h2.up g2.g)⟩)
/-- k not in found -/
theorem et_ninDt (i : Nat) {q : Addr} {ks vs : List D} {k : D} (hu : X.A.units + 64 < cLine) (hs : ss[i]? = some (.dt q ks vs)) (hb : EE X ss b k) (hk : ∃ ts, k = .tup ts) (ok : D.koks 8 ks = true) (okk : D.kok 8 k = true) (hN : X.N[i]? = some x := by first | kernel_rfl! | rfl) (hv : Vis X.env.scope x := by first | exact Or.inl (by kernel_rfl!) | exact Or.inr (Or.inl (by kernel_rfl!)) | exact Or.inr (Or.inr (by kernel_rfl!)) | exact Or.inl rfl | exact Or.inr (Or.inl rfl) | exact Or.inr (Or.inr rfl)) (hdb : (x == ("__debug__" : Str)) = false := by decide)
    (hcd : (x == ("__classdict__" : Str)) = false := by decide) (hm : behindInMarks .NotIn (.Name x p') = false := by first | exact nomark _ | rfl) : ET X ss (.Compare b [.NotIn] [.Name x p'] pos) (!(dtN k.nk (D.nks ks) vs).isSome) := fun H0 G H σ i0 s Q kk =>
  wT.of (pt_cmpR (or_ninKy hu) pe_w (pe_var hN hv hdb hcd) hm) (hb H0 G H σ i0 s _ fun u G1 H1 g1 r1 => by
    obtain ⟨v, e, ev, xs, hp, e1, r, r'⟩ := (s.grow g1).got hs (by intro z; cases z)
    subst ev
    refine ⟨_, e, ?_⟩
    obtain ⟨ts, rfl⟩ := hk
    cases r1 with
    | tup w r1 =>
      refine ⟨_, q, xs, (D.tup ts).nk, rfl, rfl, ⟨.inl hp, keys_is (r.up g1.i) e1 ok⟩, Rp.keyIs ((Rp.tup w r1).up g1.i) okk (Nat.le_refl _), _, rfl, ?_⟩
      have h := RpA.dtn (k := (D.tup ts).nk) e1 r'
      have e : (atV xs (D.tup ts).nk).isSome = (dtN (D.tup ts).nk (D.nks ks) vs).isSome := by
        cases hd : dtN (D.tup ts).nk (D.nks ks) vs with
        | none => rw [h.1 hd]; rfl
        | some d =>
          obtain ⟨v, h1, _⟩ := h.2 d hd
          rw [h1]
          rfl
      rw [e]
      exact kk G1 H1 g1)
/-- len(found) -/
theorem ee_lenDt (i : Nat) {q : Addr} {ks vs : List D} (hm : X.mg "len" = none) (hs : ss[i]? = some (.dt q ks vs)) (ok : D.koks 8 ks = true) (hN : X.N[i]? = some x := by first | kernel_rfl! | rfl) (hv : Vis X.env.scope x := by first | exact Or.inl (by kernel_rfl!) | exact Or.inr (Or.inl (by kernel_rfl!)) | exact Or.inr (Or.inr (by kernel_rfl!)) | exact Or.inl rfl | exact Or.inr (Or.inl rfl) | exact Or.inr (Or.inr rfl)) (hdb : (x == ("__debug__" : Str)) = false := by decide)
    (hcd : (x == ("__classdict__" : Str)) = false := by decide) (hg : Gl X "len" := by first | kernel_rfl! | rfl) (he : starEach [.Name x p'] X.env = (false, eval (.Name x p') X.env) :: starEach [] X.env := by first | kernel_rfl! | rfl) (hpl : (backTo pos (starEach [] X.env)).any (·.1) = false := by first | kernel_rfl! | rfl) : EE X ss (.Call (.Name "len" p) [.Name x p'] [] pos) (.int ks.length) := fun H0 G H σ i0 s Q kk => by
  obtain ⟨v, e, ev, xs, hp, e1, r, r'⟩ := s.got hs (by intro z; cases z)
  subst ev
  refine wE.of (pe_callB cr_lenKy hg hm PySem.boot_len (pa_cons (pe_var hN hv hdb hcd) pa_nil he) (by decide) (by decide) he hpl) ⟨_, e, ⟨q, xs, rfl, ⟨.inl hp, keys_is (r.up i0) e1 ok⟩, kk _ G H (.refl i0) ?_⟩⟩
  have := congrArg List.length e1
  rw [List.length_map, D.nks_map, List.length_map] at this
  rw [this]
  exact .int _
/-- an owned dict changes -/
theorem Sls.mutDt {W : Wd} {H0 G H : Hp} {σ : L2.St} {ss : List Slot} (s : Sls W H0 G H σ ss) {i : Nat} {p : Addr} {ks vs ks' vs' : List D} {xs : List (NestedKey × Addr × V)} (h : ss[i]? = some (.dt p ks vs)) (e1 : xs.map (·.1) = D.nks ks') (r : RpA W G (xs.map fun x => .ref x.2.1) ks') (r' : RpA W G (xs.map (·.2.2)) vs') : Sls W H0 G (upd H p (KyO W p xs)) σ (ss.set i (.dt p ks' vs')) := by
  obtain ⟨v, e, ev, us, hp, _⟩ := s.got h (by intro z; cases z)
  subst ev
  have hil : i < ss.length := (List.getElem?_eq_some_iff.mp h).1
  have pm : p ∈ (Slot.dt p ks vs).fp := List.mem_singleton.mpr rfl
  have fe : (Slot.dt p ks' vs').fp = (Slot.dt p ks vs).fp := rfl
  refine ⟨by rw [List.length_set, s.len], fun j t e' => ?_, fun j t e' a ha => ?_, fun j t e' => ?_, fun j k t u ne e1 e2 a ha hb => ?_⟩
  · rcases get_set e' with ⟨ej, et, _⟩ | ⟨ne, e'⟩
    · rw [ej, et]
      exact .inr ⟨_, e, rfl, xs, upd_same, e1, r, r'⟩
    · rcases s.at_ j t e' with z | ⟨v', h1, h2⟩
      · exact .inl z
      · exact .inr ⟨v', h1, h2.keepBut (fun z => s.dj j i t _ ne e' h p z pm) fun xs z => by rw [hp] at z; cases z⟩
  · rcases get_set e' with ⟨ej, et, _⟩ | ⟨ne, e'⟩
    · rw [et, fe] at ha
      exact s.off _ _ h a ha
    · exact s.off j t e' a ha
  · rcases get_set e' with ⟨ej, et, _⟩ | ⟨ne, e'⟩
    · rw [et, fe]
      exact s.nd i _ h
    · exact s.nd j t e'
  · rcases get_set e1 with ⟨ej, et, _⟩ | ⟨n1, e1'⟩
    · rcases get_set e2 with ⟨ek, eu, _⟩ | ⟨n2, e2'⟩
      · exact ne (ej.trans ek.symm)
      · rw [et, fe] at ha
        exact s.dj i k _ u (Ne.symm n2) h e2' a ha hb
    · rcases get_set e2 with ⟨ek, eu, _⟩ | ⟨n2, e2'⟩
      · rw [eu, fe] at hb
        exact s.dj j i t _ n1 e1' h a ha hb
      · exact s.dj j k t u ne e1' e2' a ha hb
theorem nks_snoc (ks : List D) (k : D) : D.nks (ks ++ [k]) = D.nks ks ++ [k.nk] := by rw [D.nks_map, D.nks_map, List.map_append]; rfl
/-- found[k] = v, a new key -/
theorem ss_dtput (i : Nat) {q : Addr} {ks vs : List D} {k d : D} (hu : X.A.units + 64 < cLine) (hs : ss[i]? = some (.dt q ks vs)) (hv' : EE X ss e d) (hb : EE X ss b k) (hk : ∃ ts, k = .tup ts) (ok : D.koks 8 ks = true) (okk : D.kok 8 k = true) (hn : dtN k.nk (D.nks ks) vs = none) (hl : ks.length ≤ 100000) (kk : P.nx (ss.set i (.dt q (ks ++ [k]) (vs ++ [d])))) (hN : X.N[i]? = some x := by first | kernel_rfl! | rfl) (hv : Vis X.env.scope x := by first | exact Or.inl (by kernel_rfl!) | exact Or.inr (Or.inl (by kernel_rfl!)) | exact Or.inr (Or.inr (by kernel_rfl!)) | exact Or.inl rfl | exact Or.inr (Or.inl rfl) | exact Or.inr (Or.inr rfl)) (hdb : (x == ("__debug__" : Str)) = false := by decide)
    (hcd : (x == ("__classdict__" : Str)) = false := by decide) (hsw : swapsWith e (some (.Subscript (.Name x p') b tpos)) pos.line X.env = pure false := by first | kernel_rfl! | rfl) : SS X ss (.Assign [.Subscript (.Name x p') b tpos] e pos) P := fun G0 H0 G H σ g s E z => by
  refine wS.of (ps_kyput hu (pe_var hN hv hdb hcd) pe_w pe_w hsw) (hv' H0 G H σ g.i s _ fun y G1 H1 g1 r1 => ?_)
  obtain ⟨v, e, ev, xs, hp, e1, r, r'⟩ := (s.grow g1).got hs (by intro z; cases z)
  subst ev
  refine ⟨_, e, hb H0 G1 H1 σ g1.i (s.grow g1) _ fun u G2 H2 g2 r2 => ?_⟩
  have s2 := s.grow (g1.trans g2)
  obtain ⟨n1, n2⟩ := s2.off i _ hs q (List.mem_singleton.mpr rfl)
  obtain ⟨ts, rfl⟩ := hk
  cases r2 with
  | tup w r2 =>
    rename_i t0 vs0
    have hlen := congrArg List.length e1
    rw [List.length_map, D.nks_map, List.length_map] at hlen
    refine ⟨q, t0, xs, (D.tup ts).nk, rfl, rfl, g2.h _ _ hp, keys_is ((r.up g2.g).up g2.i) e1 ok, Rp.keyIs ((Rp.tup w r2).up g2.i) okk (Nat.le_refl _), (RpA.dtn (k := (D.tup ts).nk) e1 r').1 hn, small (by rw [hlen]; exact hl), ?_⟩
    refine z.nx G2 _ σ _ ((g.trans (g1.trans g2)).mutE n1 n2) (s2.mutDt hs ?_ ?_ ?_) kk
    · rw [List.map_append, e1, nks_snoc]
      rfl
    · rw [List.map_append]
      exact (r.up g2.g).snoc (.tup w r2)
    · rw [List.map_append]
      exact (r'.up g2.g).snoc (r1.up g2.g)
/-- found = {k: v} -/
theorem ss_dtnew (i : Nat) {k d : D} {y : Str} {dpos : Pos} (hu : X.A.units + 64 < cLine) (hb : EE X ss b k) (hc : EE X ss c d) (hk : ∃ ts, k = .tup ts) (okk : D.kok 8 k = true) (kk : ∀ q, P.nx (ss.set i (.dt q [k] [d]))) (hN : X.N.Nodup) (hi : (ss[i]?).isSome = true := by first | kernel_rfl! | rfl) (hx : X.N[i]? = some y := by first | kernel_rfl! | rfl) (hl : Loc X.env.scope y := by first | exact Or.inl (by kernel_rfl!) | exact Or.inr (by kernel_rfl!) | exact Or.inl rfl | exact Or.inr rfl)
    (hs : swapsWith (.Dict [some b] [c] dpos) (some (.Name y p')) pos.line X.env = pure false := by first | kernel_rfl! | rfl) (hf : X.fn y = true ∨ X.env.scope.names.lookup y = some .local := by first | exact .inl (by kernel_rfl!) | exact .inr (by kernel_rfl!) | exact .inl rfl | exact .inr rfl) : SS X ss (.Assign [.Name y p'] (.Dict [some b] [c] dpos) pos) P := fun G0 H0 G H σ g s E z => by
  refine wS.of (ps_set hN hx hl (pe_kydisp hu pe_w pe_w) hs hf) fun q hq => ?_
  have g0 : Grow G H G (upd H q (KyO (wd X) q [])) := .hid g.i hq
  refine hb H0 G _ σ g0.i (s.grow g0) _ fun u G1 H1 g1 r1 => hc H0 G1 H1 σ g1.i (s.grow (g0.trans g1)) _ fun w G2 H2 g2 r2 => ?_
  have g12 := g1.trans g2
  have e1 := g12.h _ _ (upd_same : upd H q (KyO (wd X) q []) q = some (KyO (wd X) q []))
  have n1 : G2 q = none := g12.off upd_same (g.i.back hq)
  obtain ⟨ts, rfl⟩ := hk
  cases r1 with
  | tup w1 r1 =>
    rename_i t0 vs0
    refine ⟨e1, t0, (D.tup ts).nk, rfl, Rp.keyIs (((Rp.tup w1 r1).up g2.g).up g2.i) okk (Nat.le_refl _), ?_⟩
    have gg := (g0.trans g12).mut (o := KyO (wd X) q [((D.tup ts).nk, t0, w)]) hq n1
    refine z.nx G2 _ _ _ (g.trans gg) ((s.grow gg).put (s := .dt q [.tup ts] [d]) (lt_some hi) (.inr ⟨rfl, _, upd_same, rfl, .cons ((Rp.tup w1 r1).up g2.g) .nil, .cons r2 .nil⟩) (fun b hb => by rw [List.mem_singleton.mp hb]; exact ⟨n1, g.h.back hq⟩) (by simp [Slot.fp]) fun j t _ ht b hb hb' => ?_) (kk q)
    rw [List.mem_singleton.mp hb] at hb'
    exact s.fresh hq j t ht hb'
/-- an owned dict becomes known -/
theorem sd_knowDt (i : Nat) {q : Addr} {ks vs : List D} {A : List Stmt} (h : ss[i]? = some (.dt q ks vs)) (k : SD X (ss.set i (.im (.dt ks vs))) A P) : SD X ss A P := fun G0 H0 G H σ g s E z => by
  intro pins s0 I
  obtain ⟨v, e, ev, xs, hp, e1, r, r'⟩ := s.got h (by intro z; cases z)
  subst ev
  obtain ⟨n1, n2⟩ := s.off i _ h q (List.mem_singleton.mpr rfl)
  obtain ⟨od, I1⟩ := I.lock hp (by trivial)
  have hil : i < ss.length := (List.getElem?_eq_some_iff.mp h).1
  have g1 : Grow G0 H0 (upd G q (.frz od (KyO (wd X) q xs))) (upd H q (.frz od (KyO (wd X) q xs))) := (g.mutE n1 n2).know n2 upd_same
  have ex : Ex G (upd G q (.frz od (KyO (wd X) q xs))) := Ex.new n1
  refine k G0 H0 _ _ σ g1 ⟨by rw [List.length_set, s.len], fun j t e' => ?_, fun j t e' a ha => ?_, fun j t e' => ?_, fun j k t u ne e1 e2 a ha hb => ?_⟩ E z pins s0 I1
  · rcases get_set e' with ⟨ej, et, _⟩ | ⟨ne, e'⟩
    · rw [ej, et]
      exact .inr ⟨_, e, .dt upd_same e1 (r.up ex) (r'.up ex)⟩
    · rcases s.at_ j t e' with z | ⟨v', h1, h2⟩
      · exact .inl z
      · exact .inr ⟨v', h1, (h2.keepBut (fun z => s.dj j i t _ ne e' h q z (List.mem_singleton.mpr rfl)) fun xs z => by rw [hp] at z; cases z).mono ex (.refl _)⟩
  · rcases get_set e' with ⟨ej, et, _⟩ | ⟨ne, e'⟩
    · rw [et] at ha
      cases ha
    · obtain ⟨m1, m2⟩ := s.off j t e' a ha
      refine ⟨?_, m2⟩
      rw [upd_ne fun z => ?_]
      · exact m1
      · subst z
        exact s.dj j i t _ ne e' h a ha (List.mem_singleton.mpr rfl)
  · rcases get_set e' with ⟨ej, et, _⟩ | ⟨ne, e'⟩
    · rw [et]
      exact List.nodup_nil
    · exact s.nd j t e'
  · rcases get_set e1 with ⟨ej, et, _⟩ | ⟨n1, e1⟩
    · rw [et] at ha
      cases ha
    · rcases get_set e2 with ⟨ek, eu, _⟩ | ⟨n2, e2⟩
      · rw [eu] at hb
        cases hb
      · exact s.dj j k t u ne e1 e2 a ha hb
/-- for k in d -/
theorem ei_dt {ks vs : List D} {tg : Expr} (h : EE X ss a (.dt ks vs)) : EI X ss tg a ks := fun H0 G H σ i s R k => wI.of (pi_ky pe_w) (h H0 G H σ i s _ fun v G1 H1 g1 r1 => by
  cases r1 with
  | dt z e1 r r' =>
    rename_i a0 o0 xs
    have hl : xs.length = ks.length := by
      have := r.length
      rw [List.length_map] at this
      exact this
    refine ⟨a0, o0, xs, rfl, g1.i _ _ z, k _ G1 H1 g1 ⟨fun i H e hi => ⟨e _ _ z, by rw [hl]; exact hi⟩, fun i x H H' e hi y => ?_, fun H e => ⟨e _ _ z, by rw [hl]; exact Nat.le_refl _⟩⟩⟩
    obtain ⟨rfl, k0, q0, v0, hx, rfl⟩ := y
    obtain ⟨d, hd, rd⟩ := r.getV (i := i) (v := .ref q0) (by rw [List.getElem?_map, hx]; rfl)
    exact ⟨rfl, d, hd, rd⟩)
/-- list(d) -/
theorem eo_listDt {ks vs : List D} (hm : X.mg "list" = none) (ha : EE X ss e (.dt ks vs)) (hc : X.calm = true := by rfl) (hg : Gl X "list" := by rfl) (he : starEach [e] X.env = (false, eval e X.env) :: starEach [] X.env := by rfl) (hpl : (backTo pos (starEach [] X.env)).any (·.1) = false := by rfl) : EO X ss (.Call (.Name "list" p) [e] [] pos) ks :=
  eo_Ty (cr_listKy hc) hm (by decide +kernel) (ea_cons ha ea_nil he) (fun G H xs i r Q k => by
    cases r with
    | cons r t =>
      cases t
      cases r with
      | dt z e1 r r' => exact ⟨_, _, _, rfl, i _ _ z, fun l hl => GivO.new k i hl r⟩) hg (by decide) (by decide) he hpl
end
end Fw
namespace Fw
open PySem PySem.Spec PyProof.Rows L2
section
variable {X : Cx} {ss ss' : List Slot} {a b c e o tg : Expr} {es : List Expr} {pos p p' p2 apos : Pos} {x : Str} {P : Post}
theorem ee_pow {i j : Int} (hc : CPow i j) (ha : EE X ss a (.int i)) (hb : EE X ss b (.int j)) : EE X ss (.BinOp a .Pow b pos) (.int (i ^ j.toNat)) := ee_opI op_pow hc ha hb
theorem ee_addS {x y : Str} (ha : EE X ss a (.str x)) (hb : EE X ss b (.str y)) (hl : x.length + y.length ≤ 100000) : EE X ss (.BinOp a .Add b pos) (.str (x ++ y)) :=
  ee_op op_add_str ha hb fun G H u v i rx ry Q k => by
    cases rx
    cases ry
    exact ⟨_, _, rfl, rfl, Nat.le_trans hl (by decide), k _ _ _ (.refl i) (.str _)⟩
def boolText (b : Bool) : Str := if b then "True" else "False"
theorem cr_reprB : CallR X (.builtin "repr") (fun xs H Q => ∃ b, xs = [.bl b] ∧ Q (.str (boolText b)) H) := by
  intro pins s σ H xs us Q I r h
  obtain ⟨b, rfl, q⟩ := h
  obtain ⟨u, rfl, rx⟩ := vals1 r
  have e : u = .bool b := rx
  subst e
  exact PySem.P.repr_of_bool ⟨.str (boolText b), H, I.tok _, ⟨_, rfl⟩, q⟩
theorem ee_reprB {v : Bool} (hm : X.mg "repr" = none) (ha : EE X ss e (.bl v)) (hg : Gl X "repr" := by first | kernel_rfl! | rfl) (he : starEach [e] X.env = (false, eval e X.env) :: starEach [] X.env := by first | kernel_rfl! | rfl) (hpl : (backTo pos (starEach [] X.env)).any (·.1) = false := by first | kernel_rfl! | rfl) : EE X ss (.Call (.Name "repr" p) [e] [] pos) (.str (boolText v)) :=
  ee_B cr_reprB hm (by decide +kernel) (ea_cons ha ea_nil he) (fun G H xs i r Q k => by
    cases r with
    | cons r t =>
      cases t
      cases r
      exact ⟨_, rfl, Giv.here k i (.str _)⟩) hg (by decide) (by decide) he hpl
/-- a tuple target for a value with an effect on the slots -/
theorem ss_tupF {d : D} {ws : List (Nat × D)} (h : EF X ss e d ss') (hg : GD X ss' tg d ws) (k : P.nx (putS ss' ws)) (hs : swapsWithSole [tg] e pos.line X.env = pure false := by first | kernel_rfl! | rfl) (hw : swappedStores [tg] e X.env = pure none := by first | kernel_rfl! | rfl)
    (h1 : (assignEach [tg] X.env).map (·.2) = [assign tg X.env] := by first | kernel_rfl! | rfl) : SS X ss (.Assign [tg] e pos) P := fun G0 H0 G H σ g s E q =>
  wS.of (ps_asg pe_w pg_w hs hw h1) (h G0 H0 G H σ g s _ fun v G1 H1 g1 s1 r1 => hg H0 G1 H1 σ v g1.i s1 r1 _ fun σ' s' _ => q.nx G1 H1 σ' _ g1 s' k)
end
end Fw
namespace Fw
open PySem PySem.Spec PyProof.Rows L2
section
variable {X : Cx} {ss ss' : List Slot} {a b c e o tg : Expr} {es : List Expr} {rest : List Stmt} {pos p p' p2 apos fpos cpos : Pos} {x : Str} {P : Post}
/-- k not in x, x an owned list -/
theorem et_ninO (i : Nat) {q : Addr} {ds : List D} {d : D} {n m : Nat} {k : Bool} (hu : X.A.units + 65 < cLine) (hs : ss[i]? = some (.ow q ds)) (hb : EE X ss b d) (h1 : D.ok n d = true) (h2 : D.oks m ds = true) (hn : n ≤ 64) (hm : m < 64) (hk : k = true ↔ d ∈ ds) (hN : X.N[i]? = some x := by first | kernel_rfl! | rfl) (hv : Vis X.env.scope x := by first | exact Or.inl (by kernel_rfl!) | exact Or.inr (Or.inl (by kernel_rfl!)) | exact Or.inr (Or.inr (by kernel_rfl!)) | exact Or.inl rfl | exact Or.inr (Or.inl rfl) | exact Or.inr (Or.inr rfl)) (hdb : (x == ("__debug__" : Str)) = false := by decide)
    (hcd : (x == ("__classdict__" : Str)) = false := by decide) (hmk : behindInMarks .NotIn (.Name x p') = false := by first | exact nomark _ | rfl) : ET X ss (.Compare b [.NotIn] [.Name x p'] pos) (!k) := fun H0 G H σ i0 s Q kk =>
  wT.of (pt_cmpR (op_notInD hu) pe_w (pe_var hN hv hdb hcd) hmk) (hb H0 G H σ i0 s _ fun u G1 H1 g1 r1 => by
    obtain ⟨v, e, ev, vs, hp, r⟩ := (s.grow g1).got hs (by intro z; cases z)
    subst ev
    refine ⟨_, e, d.py, D.pys ds, (r1.up g1.i).dp _ _ _ h1, .lst (SqL.of hp) ((r.up g1.i).dp m _ _ h2), D.shaped h1 hn, D.shaped (n := m + 1) (d := .lst ds) (by simpa [D.ok] using h2) hm, _, rfl, ?_⟩
    rw [show ((D.pys ds).any fun z => PyData.eqv z d.py) = k from by rw [Bool.eq_iff_iff, eqv_any h1 h2, hk]]
    exact kk G1 H1 g1)
/-! ### tuples of owned lists -/
def EAF (X : Cx) (ss : List Slot) (es : List Expr) (fs : List Fld) : Prop := ∀ H0 G H σ, Ex G H → Sls (wd X) H0 G H σ ss → ∀ Q : List V → Hp → Prop, (∀ vs G' H', Grow G H G' H' → FldsAt (wd X) G' H' vs fs → Q vs H') → wA X es σ H Q
theorem eaf_nil : EAF X ss [] [] := fun H0 G H σ i s Q k => wA.of pa_nil (k [] G H (.refl i) .nil)
theorem eaf_im {d : D} {fs : List Fld} (ha : EE X ss e d) (hr : EAF X ss es fs) (hs : starEach (e :: es) X.env = (false, eval e X.env) :: starEach es X.env := by first | kernel_rfl! | rfl) : EAF X ss (e :: es) (.im d :: fs) := fun H0 G H σ i s Q k =>
  wA.of (pa_cons pe_w pa_w hs) (ha H0 G H σ i s _ fun v G1 H1 g1 r1 => hr H0 G1 H1 σ g1.i (s.grow g1) _ fun vs G2 H2 g2 r2 => k _ G2 H2 (g1.trans g2) (.cons (r1.up g2.g) r2))
theorem eaf_ow (i : Nat) {q : Addr} {ds : List D} {fs : List Fld} (h : ss[i]? = some (.ow q ds)) (hr : EAF X ss es fs) (hN : X.N[i]? = some x := by first | kernel_rfl! | rfl) (hv : Vis X.env.scope x := by first | exact Or.inl (by kernel_rfl!) | exact Or.inr (Or.inl (by kernel_rfl!)) | exact Or.inr (Or.inr (by kernel_rfl!)) | exact Or.inl rfl | exact Or.inr (Or.inl rfl) | exact Or.inr (Or.inr rfl)) (hdb : (x == ("__debug__" : Str)) = false := by decide)
    (hcd : (x == ("__classdict__" : Str)) = false := by decide) (hs : starEach (.Name x p' :: es) X.env = (false, eval (.Name x p') X.env) :: starEach es X.env := by first | kernel_rfl! | rfl) : EAF X ss (.Name x p' :: es) (.ow q ds :: fs) := fun H0 G H σ i0 s Q k => by
  obtain ⟨v, e, ev, vs, hp, r⟩ := s.got h (by intro z; cases z)
  subst ev
  exact wA.of (pa_cons (pe_var hN hv hdb hcd) pa_w hs) ⟨_, e, hr H0 G H σ i0 s _ fun ws G2 H2 g2 r2 => k _ G2 H2 g2 (.cons ⟨rfl, vs, g2.h _ _ hp, r.up g2.g⟩ r2)⟩
/-- return a tuple that holds an owned list -/
theorem ss_retTp (i : Nat) {q : Addr} {ds : List D} {fs : List Fld} {x1} (hs : ss[i]? = some (.ow q ds)) (h : EAF X ss es fs) (hfp : fs.flatMap (·.fp) = [q]) (hl : fs.length ≤ 100000) (k : ∀ p, P.rt (.tp p fs) ss) : SS X ss (.Return (some (.Tuple es x1 p2)) pos) P := fun G0 H0 G H σ g s E z =>
  wS.of (ps_ret (pe_tup pa_w)) (h H0 G H σ g.i s _ fun vs G1 H1 g1 r1 => by
    have hln : ∀ {vs : List V} {fs : List Fld}, FldsAt (wd X) G1 H1 vs fs → vs.length = fs.length := fun {vs fs} h => by
      induction h with
      | nil => rfl
      | cons _ _ ih => rw [List.length_cons, List.length_cons, ih]
    refine ⟨Nat.le_trans (by rw [hln r1]; exact hl) (by decide), fun p hp => ?_⟩
    have gn : Grow G1 H1 (upd G1 p (.tup vs)) (upd H1 p (.tup vs)) := .new g1.i hp
    have g2 := g.trans (g1.trans gn)
    have s2 := (s.grow g1).grow gn
    have off : ∀ a ∈ (Slot.tp p fs).fp, upd G1 p (.tup vs) a = none ∧ H0 a = none := fun a ha => by
      have : a = q := by
        have ha : a ∈ fs.flatMap (·.fp) := ha
        rw [hfp] at ha
        exact List.mem_singleton.mp ha
      rw [this]
      exact s2.off i _ hs q (List.mem_singleton.mpr rfl)
    exact z.rt _ _ σ ss (.ref p) (.tp p fs) g2 s2 ⟨rfl, vs, upd_same, r1.mono gn.g gn.h⟩ (by intro z; cases z) off (by show (fs.flatMap (·.fp)).Nodup; rw [hfp]; simp) (k p))
/-- a def that gives such a tuple -/
def spTp (W : Wd) (T : List D → (List Fld → Prop) → Prop) : Sp := fun vs H Q _ => ∃ G ds R, Ex G H ∧ RpA W G vs ds ∧ T ds R ∧ ∀ p fs G' H', R fs → Grow G H G' H' → SlotAt W G' H' (.ref p) (.tp p fs) → (∀ a ∈ (Slot.tp p fs).fp, G' a = none ∧ H a = none) → (Slot.tp p fs).fp.Nodup → Q (.ref p) H'
/-- y = f(..): a tuple that holds an owned list -/
theorem ss_asgTp (i : Nat) {T : List D → (List Fld → Prop) → Prop} {R : List Fld → Prop} {kk j : Nat} {ds : List D} {y : Str} (c : C8.Cal X.prog X.w X.K X.mg X.base kk x (spTp (wd X) T) []) (hr : Room j X.A) (hk : kk ≤ j) (ha : EA X ss (e :: es) ds) (hT : T ds R) (k : ∀ q fs, R fs → P.nx (ss.set i (.tp q fs))) (hN : X.N.Nodup) (hi : (ss[i]?).isSome = true := by first | kernel_rfl! | rfl) (hx : X.N[i]? = some y := by first | kernel_rfl! | rfl) (hl : Loc X.env.scope y := by first | exact Or.inl (by kernel_rfl!) | exact Or.inr (by kernel_rfl!) | exact Or.inl rfl | exact Or.inr rfl)
    (hs : swapsWith (.Call (.Name x p) (e :: es) [] p2) (some (.Name y p')) pos.line X.env = pure false := by first | kernel_rfl! | rfl) (hf : X.fn y = true ∨ X.env.scope.names.lookup y = some .local := by first | exact .inl (by kernel_rfl!) | exact .inr (by kernel_rfl!) | exact .inl rfl | exact .inr rfl) (hg : Gl X x := by first | kernel_rfl! | rfl) (hdb : (x == ("__debug__" : Str)) = false := by decide)
    (he : starEach (e :: es) X.env = (false, eval e X.env) :: starEach es X.env := by first | kernel_rfl! | rfl) (hpl : (backTo p2 (starEach es X.env)).any (·.1) = false := by first | kernel_rfl! | rfl) : SS X ss (.Assign [.Name y p'] (.Call (.Name x p) (e :: es) [] p2) pos) P := fun G0 H0 G H σ g s E z =>
  wS.of (ps_set hN hx hl pe_w hs hf) (wE.of (C8.pe_c c hr hk hg pa_w hdb he hpl) (ha H0 G H σ g.i s _ fun vs G1 H1 g1 r1 => ⟨G1, ds, R, g1.i, by rw [List.append_nil]; exact r1, hT, fun q fs G' H' t g' a o nd => by
    refine z.nx G' H' _ _ (g.trans (g1.trans g')) (((s.grow g1).grow g').put (lt_some hi) (.inr a) (fun b hb => ⟨(o b hb).1, (g.trans g1).h.back (o b hb).2⟩) nd fun j t _ ht b hb hb' => ?_) (k q fs t)
    obtain ⟨u, hu⟩ := (s.grow g1).dom ht hb'
    rw [(o b hb).2] at hu
    cases hu⟩))
/-- what a field of such a tuple holds -/
theorem fldsAt_ix {W : Wd} {G H : Hp} : ∀ {vs : List V} {fs : List Fld} {k : Nat} {f : Fld}, FldsAt W G H vs fs → fs[k]? = some f → ∃ v, vs[k]? = some v ∧ FldAt W G H v f
  | _, _, _, _, .nil, h => by cases h
  | _, _, 0, _, .cons a _, h => by cases h; exact ⟨_, rfl, a⟩
  | _, _, k + 1, f, .cons _ t, h => by
    obtain ⟨v, h1, h2⟩ := fldsAt_ix (k := k) t (by simpa using h)
    exact ⟨v, by simpa using h1, h2⟩
theorem fldsAt_len {W : Wd} {G H : Hp} : ∀ {vs : List V} {fs : List Fld}, FldsAt W G H vs fs → vs.length = fs.length
  | _, _, .nil => rfl
  | _, _, .cons _ t => by rw [List.length_cons, List.length_cons, fldsAt_len t]
theorem atI_V {vs : List V} {k : Nat} {v : V} (h : vs[k]? = some v) : atI vs (k : Int) = some v := atI_nat h
/-- x[k], a known field -/
theorem ee_ixTp (i : Nat) (k : Nat) {q : Addr} {fs : List Fld} {d : D} (hs : ss[i]? = some (.tp q fs)) (hf : fs[k]? = some (.im d)) (hb : EE X ss b (.int k)) (hN : X.N[i]? = some x := by first | kernel_rfl! | rfl) (hv : Vis X.env.scope x := by first | exact Or.inl (by kernel_rfl!) | exact Or.inr (Or.inl (by kernel_rfl!)) | exact Or.inr (Or.inr (by kernel_rfl!)) | exact Or.inl rfl | exact Or.inr (Or.inl rfl) | exact Or.inr (Or.inr rfl)) (hdb : (x == ("__debug__" : Str)) = false := by decide)
    (hcd : (x == ("__classdict__" : Str)) = false := by decide) (hpl : PlainIx b := by intro _ _; rfl) : EE X ss (.Subscript (.Name x p') b pos) d := fun H0 G H σ i0 s Q kk => by
  obtain ⟨v, e, ev, vs, gp, at'⟩ := s.got hs (by intro z; cases z)
  subst ev
  refine wE.of (pe_ix ix_tup (pe_var hN hv hdb hcd) pe_w hpl) ⟨_, e, hb H0 G H σ i0 s _ fun y G1 H1 g1 r1 => ?_⟩
  cases r1
  obtain ⟨u, h1, h2⟩ := fldsAt_ix at' hf
  exact ⟨_, vs, _, u, rfl, rfl, g1.i.t (SqT.of (g1.g _ _ gp)), atI_V h1, kk u G1 H1 g1 (Rp.up h2 g1.g)⟩
/-- k not in x[j], x[j] an own list -/
theorem et_ninTp (i j : Nat) {q l : Addr} {fs : List Fld} {ds : List D} {d : D} {n m : Nat} {k : Bool} (hu : X.A.units + 65 < cLine) (hs : ss[i]? = some (.tp q fs)) (hf : fs[j]? = some (.ow l ds)) (hc : EE X ss c d) (hb : EE X ss b (.int j)) (h1 : D.ok n d = true) (h2 : D.oks m ds = true) (hn : n ≤ 64) (hm : m < 64) (hk : k = true ↔ d ∈ ds) (hN : X.N[i]? = some x := by first | kernel_rfl! | rfl) (hv : Vis X.env.scope x := by first | exact Or.inl (by kernel_rfl!) | exact Or.inr (Or.inl (by kernel_rfl!)) | exact Or.inr (Or.inr (by kernel_rfl!)) | exact Or.inl rfl | exact Or.inr (Or.inl rfl) | exact Or.inr (Or.inr rfl)) (hdb : (x == ("__debug__" : Str)) = false := by decide)
    (hcd : (x == ("__classdict__" : Str)) = false := by decide) (hpl : PlainIx b := by intro _ _; rfl) (hmk : behindInMarks .NotIn (.Subscript (.Name x p') b p2) = false := by first | exact nomark _ | rfl) : ET X ss (.Compare c [.NotIn] [.Subscript (.Name x p') b p2] pos) (!k) := fun H0 G H σ i0 s Q kk =>
  wT.of (pt_cmpR (op_notInD hu) pe_w (pe_ix ix_tup (pe_var hN hv hdb hcd) pe_w hpl) hmk) (hc H0 G H σ i0 s _ fun u G1 H1 g1 r1 => by
    have s1 := s.grow g1
    obtain ⟨v, e, ev, vs, gp, _⟩ := s1.got hs (by intro z; cases z)
    subst ev
    refine ⟨_, e, hb H0 G1 H1 σ g1.i s1 _ fun y G2 H2 g2 r2 => ?_⟩
    cases r2
    have s2 := s1.grow g2
    obtain ⟨v2, e2, ev2, vs2, gp2, at2⟩ := s2.got hs (by intro z; cases z)
    obtain ⟨u2, h3, ⟨h4, us, hl, r⟩⟩ := fldsAt_ix at2 hf
    subst h4
    refine ⟨_, vs2, _, _, rfl, rfl, g2.i.t (SqT.of gp2), atI_V h3, d.py, D.pys ds, ((r1.up g2.g).up g2.i).dp _ _ _ h1, .lst (SqL.of hl) ((r.up g2.i).dp m _ _ h2), D.shaped h1 hn, D.shaped (n := m + 1) (d := .lst ds) (by simpa [D.ok] using h2) hm, _, rfl, ?_⟩
    rw [show ((D.pys ds).any fun z => PyData.eqv z d.py) = k from by rw [Bool.eq_iff_iff, eqv_any h1 h2, hk]]
    exact kk G2 H2 (g1.trans g2))
/-- such a list changes -/
theorem fldsAt_mut {W : Wd} {G H : Hp} {l : Addr} {ds es : List D} {us : List V} (r : RpA W G us es) : ∀ {vs : List V} {fs : List Fld} {k : Nat}, FldsAt W G H vs fs → fs[k]? = some (.ow l ds) → (fs.flatMap (·.fp)).Nodup → FldsAt W G (upd H l (.lst us)) vs (fs.set k (.ow l es))
  | _, _, _, .nil, h, _ => by cases h
  | _, _, 0, .cons a t, h, nd => by
    cases h
    rw [List.flatMap_cons, List.nodup_append] at nd
    exact .cons ⟨a.1, us, upd_same, r⟩ (t.keepBut fun z => nd.2.2 l (List.mem_singleton.mpr rfl) l z rfl)
  | _, _, k + 1, .cons (fs := fs) a t, h, nd => by
    have h : fs[k]? = some (.ow l ds) := by simpa using h
    rw [List.flatMap_cons, List.nodup_append] at nd
    refine .cons (a.keepBut fun z => nd.2.2 l z l ?_ rfl) (fldsAt_mut r t h nd.2.1)
    exact List.mem_flatMap.mpr ⟨_, List.mem_of_getElem? h, List.mem_singleton.mpr rfl⟩
theorem fp_setTp {l : Addr} {ds es : List D} : ∀ {fs : List Fld} {k : Nat}, fs[k]? = some (.ow l ds) → (fs.set k (.ow l es)).flatMap (·.fp) = fs.flatMap (·.fp)
  | [], _, h => by cases h
  | f :: fs, 0, h => by cases h; rfl
  | f :: fs, k + 1, h => by
    rw [List.set_cons_succ, List.flatMap_cons, List.flatMap_cons, fp_setTp (k := k) (by simpa using h)]
theorem mem_fpTp {l : Addr} {ds : List D} {fs : List Fld} {k : Nat} (h : fs[k]? = some (.ow l ds)) : l ∈ fs.flatMap (·.fp) := List.mem_flatMap.mpr ⟨_, List.mem_of_getElem? h, List.mem_singleton.mpr rfl⟩
theorem Sls.mutTp {W : Wd} {H0 G H : Hp} {σ : L2.St} {ss : List Slot} (s : Sls W H0 G H σ ss) {i k : Nat} {q l : Addr} {fs : List Fld} {ds es : List D} {us : List V} (h : ss[i]? = some (.tp q fs)) (hf : fs[k]? = some (.ow l ds)) (r : RpA W G us es) : Sls W H0 G (upd H l (.lst us)) σ (ss.set i (.tp q (fs.set k (.ow l es)))) := by
  obtain ⟨v, e, ev, vs, gp, at'⟩ := s.got h (by intro z; cases z)
  subst ev
  obtain ⟨u, _, ⟨_, vs0, hl, _⟩⟩ := fldsAt_ix at' hf
  have nd := s.nd i _ h
  have fe : (Slot.tp q (fs.set k (.ow l es))).fp = (Slot.tp q fs).fp := fp_setTp hf
  have pm : l ∈ (Slot.tp q fs).fp := mem_fpTp hf
  refine ⟨by rw [List.length_set, s.len], fun j t e' => ?_, fun j t e' a ha => ?_, fun j t e' => ?_, fun j k t u ne e1 e2 a ha hb => ?_⟩
  · rcases get_set e' with ⟨ej, et, _⟩ | ⟨ne, e'⟩
    · rw [ej, et]
      exact .inr ⟨_, e, rfl, vs, gp, fldsAt_mut r at' hf nd⟩
    · rcases s.at_ j t e' with z | ⟨v', h1, h2⟩
      · exact .inl z
      · exact .inr ⟨v', h1, h2.keepBut (fun z => s.dj i j _ t (Ne.symm ne) h e' l pm z) fun xs z => by rw [hl] at z; cases z⟩
  · rcases get_set e' with ⟨ej, et, _⟩ | ⟨ne, e'⟩
    · rw [et, fe] at ha
      exact s.off i _ h a ha
    · exact s.off j t e' a ha
  · rcases get_set e' with ⟨ej, et, _⟩ | ⟨ne, e'⟩
    · rw [et, fe]
      exact nd
    · exact s.nd j t e'
  · rcases get_set e1 with ⟨ej, et, _⟩ | ⟨n1, e1'⟩
    · rcases get_set e2 with ⟨ek, eu, _⟩ | ⟨n2, e2'⟩
      · exact ne (ej.trans ek.symm)
      · rw [et, fe] at ha
        exact s.dj i k _ u (Ne.symm n2) h e2' a ha hb
    · rcases get_set e2 with ⟨ek, eu, _⟩ | ⟨n2, e2'⟩
      · rw [eu, fe] at hb
        exact s.dj j i t _ n1 e1' h a ha hb
      · exact s.dj j k t u ne e1' e2' a ha hb
/-- x[j].append(e) -/
theorem ss_appTp (i j : Nat) {q l : Addr} {fs : List Fld} {ds : List D} {d : D} (hs : ss[i]? = some (.tp q fs)) (hf : fs[j]? = some (.ow l ds)) (hb : EE X ss b (.int j)) (h : EE X ss e d) (hl : ds.length ≤ 100000) (k : P.nx (ss.set i (.tp q (fs.set j (.ow l (ds ++ [d])))))) (hN : X.N[i]? = some x := by first | kernel_rfl! | rfl) (hv : Vis X.env.scope x := by first | exact Or.inl (by kernel_rfl!) | exact Or.inr (Or.inl (by kernel_rfl!)) | exact Or.inr (Or.inr (by kernel_rfl!)) | exact Or.inl rfl | exact Or.inr (Or.inl rfl) | exact Or.inr (Or.inr rfl)) (hd : (x == ("__debug__" : Str)) = false := by decide)
    (hcd : (x == ("__classdict__" : Str)) = false := by decide) (hpl : PlainIx b := by intro _ _; rfl)
    (hbase : attributeBase (.Subscript (.Name x p') b fpos) "append" X.env (eval (.Subscript (.Name x p') b fpos) X.env) = eval (.Subscript (.Name x p') b fpos) X.env := by first | kernel_rfl! | rfl)
    (hfew : ((backTo cpos (starEach [e] X.env)).all (fun x => !x.1) && (backToKw cpos (keywordEach [] X.env)).all (fun x => x.1.isSome)
      && decide (([e] : List Expr).length + ([] : List Keyword).length + (if ([] : List Keyword).isEmpty then 0 else 1) < 30)) = true := by first | kernel_rfl! | rfl)
    (hline : (apos.endLine == cpos.line) = true := by first | kernel_rfl! | rfl) (hse : starEach [e] X.env = (false, eval e X.env) :: starEach [] X.env := by first | kernel_rfl! | rfl) (hplain : (backTo cpos (starEach [] X.env)).any (·.1) = false := by first | kernel_rfl! | rfl)
    (hsw : swapsWith (.Call (.Attribute (.Subscript (.Name x p') b fpos) "append" apos) [e] [] cpos) none pos.line X.env = pure false := by first | kernel_rfl! | rfl) : SS X ss (.Expr (.Call (.Attribute (.Subscript (.Name x p') b fpos) "append" apos) [e] [] cpos) pos) P := fun G0 H0 G H σ g s E z => by
  obtain ⟨v, e1, ev, vs, gp, at'⟩ := s.got hs (by intro z; cases z)
  subst ev
  refine wS.of (ps_expr (pe_bm PySem.F.plainAttrs_list PySem.F.slot_list_append PySem.F.type_list_append mt_append (pe_ix ix_tup (pe_var hN hv hd hcd) pe_w hpl) pa_w hbase hfew hline hse hplain) hsw) ⟨_, e1, hb H0 G H σ g.i s _ fun y G1 H1 g1 r1 => ?_⟩
  cases r1
  have s1 := s.grow g1
  obtain ⟨v2, e2, ev2, vs2, gp2, at2⟩ := s1.got hs (by intro z; cases z)
  obtain ⟨u2, h3, ⟨h4, us, hlu, r⟩⟩ := fldsAt_ix at2 hf
  subst h4
  obtain ⟨n1, n2⟩ := s1.off i _ hs l (mem_fpTp hf)
  refine ⟨_, vs2, _, _, rfl, rfl, g1.i.t (SqT.of gp2), atI_V h3, .inl ⟨rfl, _, SqL.of hlu⟩, ?_⟩
  refine ea_cons h ea_nil hse H0 G1 H1 σ g1.i s1 _ fun ws G2 H2 g2 r2 => ?_
  cases r2 with
  | cons r2 t =>
    cases t
    have s2 := s1.grow g2
    refine ⟨_, _, _, rfl, rfl, g2.h _ _ hlu, small (by rw [r.length]; exact hl), ?_⟩
    exact z.nx G2 _ _ _ ((g.trans (g1.trans g2)).mutE (g2.off hlu n1) n2) (s2.mutTp hs hf ((r.up g2.g).snoc r2)) k
/-- the whole becomes known -/
theorem sd_frzTp (i : Nat) {q : Addr} {fs : List Fld} (h : ss[i]? = some (.tp q fs)) (k : SD X (ss.set i (.im (.tup (fs.map Fld.toD)))) rest P) : SD X ss rest P := fun G0 H0 G H σ g s E z => by
  obtain ⟨v, e, ev, vs, gp, at'⟩ := s.got h (by intro z; cases z)
  subst ev
  obtain ⟨G', g', e', r', n'⟩ := at'.know g (s.off i _ h) (s.nd i _ h)
  refine k G0 H0 G' H σ g' ⟨by rw [List.length_set, s.len], fun j t e2 => ?_, fun j t e2 a ha => ?_, fun j t e2 => ?_, fun j k t u ne e1 e2 a ha hb => ?_⟩ E z
  · rcases get_set e2 with ⟨ej, et, _⟩ | ⟨ne, e2⟩
    · rw [ej, et]
      exact .inr ⟨_, e, .tup (SqT.of (e' _ _ gp)) r'⟩
    · rcases s.at_ j t e2 with z | ⟨v', h1, h2⟩
      · exact .inl z
      · exact .inr ⟨v', h1, h2.mono e' (.refl _)⟩
  · rcases get_set e2 with ⟨ej, et, _⟩ | ⟨ne, e2⟩
    · rw [et] at ha
      cases ha
    · obtain ⟨m1, m2⟩ := s.off j t e2 a ha
      refine ⟨?_, m2⟩
      cases q2 : G' a with
      | none => rfl
      | some o =>
        rcases n' a o q2 with z | z
        · rw [m1] at z; cases z
        · exact absurd z (s.dj j i t _ ne e2 h a ha)
  · rcases get_set e2 with ⟨ej, et, _⟩ | ⟨ne, e2⟩
    · rw [et]
      exact List.nodup_nil
    · exact s.nd j t e2
  · rcases get_set e1 with ⟨ej, et, _⟩ | ⟨n1, e1'⟩
    · rw [et] at ha
      cases ha
    · rcases get_set e2 with ⟨ek, eu, _⟩ | ⟨n2, e2'⟩
      · rw [eu] at hb
        cases hb
      · exact s.dj j k t u ne e1' e2' a ha hb
end
section
variable {P : Program} {w : World} {K : PySem.W.Frag} {mg : Str → Option Value} {base : Heap}
theorem calTp {x : Str} {st : Stmt} {f : Addr} {fd : FuncData} {N ps : List Str} {k : Nat} (T : List D → (List Fld → Prop) → Prop) (F : C8.Def K mg x st f fd) (b : Binds K fd ps []) (S : FnScope N ps (C8.fnScope st)) (len : ∀ ds d, T ds d → ds.length = ps.length) (hpN : ps.length ≤ N.length)
    (hbody : ∀ (cdv : Value) (A : Around) (outer : List Env) (s : Shared) (H : Hp) (E : XK), Room k (A.deeper (envOfC x (C8.fnScope st) s.heap.objs.size f cdv)) → ∀ ds R, T ds R →
      SD (cxOf C8.CX0 P w K mg base N x (C8.fnScope st) f cdv A outer s H E).nox (startS N.length ds) (C8.fnBody st) { nx := fun _ => False, rt := fun t _ => ∃ q fs, t = .tp q fs ∧ R fs }) : C8.Cal P w K mg base (k + 1) x (spTp ⟨P, w, K⟩ T) [] := by
  refine C8.cal0 F b .nil S (fun vs H Q E h => ?_) (fun cdv A outer s H vs Q E hr h => ⟨wSs _ _, pss_w, ?_⟩)
  · obtain ⟨G, ds, R, i, r, t, _⟩ := h
    rw [r.length, len ds R t]
  · obtain ⟨G, ds, R, i, r, t, q⟩ := h
    have hl : ds.length ≤ N.length := by rw [len ds R t]; exact hpN
    refine hbody cdv A outer s H E hr ds R t G H G H (L2.start N vs) (.refl i) (start_at r hl) _ ⟨fun G1 H1 σ1 ss1 g1 s1 h1 => h1.elim, fun G1 H1 σ1 ss1 v1 t1 g1 s1 a1 a2 a3 a4 a5 => ?_, fun G1 H1 σ1 ss1 g1 s1 h1 => h1.elim, fun G1 H1 σ1 ss1 g1 s1 h1 => h1.elim⟩
    obtain ⟨p, fs, rfl, hR⟩ := a5
    have ev : v1 = .ref p := a1.1
    subst ev
    exact q p fs G1 H1 hR g1 a1 a3 a4
end
end Fw
namespace Fw
open PySem PySem.Spec PyProof.Rows L2
/-! ### a def that changes the lists of a tuple that it is handed last -/
section
variable {W : Wd} {G H H0 G0 G' H' : Hp} {v : V} {l : List Addr}
theorem Sls.thruTp {σ : L2.St} {ss : List Slot} (e0 : Ex H0 H) (s : Sls W H0 G H σ ss) {i : Nat} {q : Addr} {fs fs' : List Fld} (h : ss[i]? = some (.tp q fs)) (g' : Grow G (lessH H (Slot.tp q fs).fp) G' H') (at' : SlotAt W G' H' (.ref q) (.tp q fs'))
    (off : ∀ a ∈ (Slot.tp q fs').fp, G' a = none ∧ lessH H (Slot.tp q fs).fp a = none) (nd : (Slot.tp q fs').fp.Nodup) : Sls W H0 G' H' σ (ss.set i (.tp q fs')) := by
  obtain ⟨v, e, at0⟩ := s.got h (by intro z; cases z)
  have ev : v = .ref q := at0.1
  subst ev
  obtain ⟨_, vs0, gq, at1⟩ := at0
  have nt := at1.noTup
  have dm : ∀ j t, j ≠ i → ss[j]? = some t → ∀ a ∈ t.fp, ∃ o, lessH H (Slot.tp q fs).fp a = some o := fun j t ne ht a ha => by
    obtain ⟨o, ho⟩ := s.dom ht ha
    exact ⟨o, by rw [lessH_out (s.dj j i t _ ne ht h a ha)]; exact ho⟩
  refine ⟨by rw [List.length_set, s.len], fun j t e2 => ?_, fun j t e2 a ha => ?_, fun j t e2 => ?_, fun j k t u ne e1 e2 a ha hb => ?_⟩
  · rcases get_set e2 with ⟨ej, et, _⟩ | ⟨ne, e2⟩
    · rw [ej, et]
      exact .inr ⟨_, e, at'⟩
    · rcases s.at_ j t e2 with z | ⟨v', h1, h2⟩
      · exact .inl z
      · exact .inr ⟨v', h1, (h2.less (fun a ha => s.dj j i t _ ne e2 h a ha) nt).mono g'.g g'.h⟩
  · rcases get_set e2 with ⟨ej, et, _⟩ | ⟨ne, e2⟩
    · rw [et] at ha
      refine ⟨(off a ha).1, ?_⟩
      have := (off a ha).2
      by_cases y : a ∈ (Slot.tp q fs).fp
      · exact (s.off i _ h a y).2
      · rw [lessH_out y] at this
        exact e0.back this
    · obtain ⟨m1, m2⟩ := s.off j t e2 a ha
      refine ⟨?_, m2⟩
      obtain ⟨o, ho⟩ := dm j t ne e2 a ha
      cases z : G' a with
      | none => rfl
      | some u =>
        rcases g'.n a u z with z | z
        · rw [m1] at z; cases z
        · rw [ho] at z; cases z
  · rcases get_set e2 with ⟨ej, et, _⟩ | ⟨ne, e2⟩
    · rw [et]
      exact nd
    · exact s.nd j t e2
  · rcases get_set e1 with ⟨ej, et, _⟩ | ⟨n1, e1'⟩
    · rcases get_set e2 with ⟨ek, eu, _⟩ | ⟨n2, e2'⟩
      · exact ne (ej.trans ek.symm)
      · rw [et] at ha
        obtain ⟨o, ho⟩ := dm k u n2 e2' a hb
        rw [(off a ha).2] at ho
        cases ho
    · rcases get_set e2 with ⟨ek, eu, _⟩ | ⟨n2, e2'⟩
      · rw [eu] at hb
        obtain ⟨o, ho⟩ := dm j t n1 e1' a ha
        rw [(off a hb).2] at ho
        cases ho
      · exact s.dj j k t u ne e1' e2' a ha hb
def spT (W : Wd) (T : List D → List Fld → D → List Fld → Prop) : Sp := fun vs H Q _ => ∃ G ds q us fs d fs', vs = us ++ [.ref q] ∧ Ex G H ∧ SlotAt W G H (.ref q) (.tp q fs) ∧ (∀ a ∈ (Slot.tp q fs).fp, G a = none) ∧ (Slot.tp q fs).fp.Nodup ∧ RpA W G us ds ∧ T ds fs d fs' ∧
  ∀ v G' H', Grow G (lessH H (Slot.tp q fs).fp) G' H' → Rp W G' v d → SlotAt W G' H' (.ref q) (.tp q fs') → (∀ a ∈ (Slot.tp q fs').fp, G' a = none ∧ lessH H (Slot.tp q fs).fp a = none) → (Slot.tp q fs').fp.Nodup → Q v H'
def lastS (n : Nat) (ds : List D) (q : Addr) (fs : List Fld) : List Slot := (ds.map Slot.im ++ [.tp q fs]) ++ List.replicate (n - (ds.length + 1)) .no
theorem last_at {N : List Str} {us : List V} {ds : List D} {q : Addr} {fs : List Fld} (r : RpA W G us ds) (hl : ds.length + 1 ≤ N.length) (at' : SlotAt W G H (.ref q) (.tp q fs)) (off : ∀ a ∈ (Slot.tp q fs).fp, G a = none ∧ H0 a = none) (nd : (Slot.tp q fs).fp.Nodup) :
    Sls W H0 G H (L2.start N (us ++ [.ref q])) (lastS N.length ds q fs) := by
  have hr := r.length
  have z : Sls W H0 G H (L2.start N (us ++ [.non])) (startS N.length (ds ++ [.non])) := start_at (r.snoc .non) (by rw [List.length_append]; exact hl)
  have fp0 : ∀ (j : Nat) t, (startS N.length (ds ++ [.non]))[j]? = some t → t.fp = [] := fun j t ht => by
    have := List.mem_of_getElem? ht
    unfold startS at this
    rcases List.mem_append.mp this with z | z
    · obtain ⟨d, _, rfl⟩ := List.mem_map.mp z
      rfl
    · rw [List.eq_of_mem_replicate z]
      rfl
  have s := z.put (i := ds.length) (v := .ref q) (s := .tp q fs) (by unfold startS; simp) (.inr at') off nd fun j t _ ht a ha hb => by rw [fp0 j t ht] at hb; cases hb
  have e1 : (startS N.length (ds ++ [.non])).set ds.length (.tp q fs) = lastS N.length ds q fs := by
    unfold startS lastS
    simp [List.set_append]
  have e2 : (L2.start N (us ++ [.non])).set ds.length (some (.ref q)) = L2.start N (us ++ [.ref q]) := by
    unfold L2.start
    simp [List.set_append, hr]
  rw [e1, e2] at s
  exact s
end
section
variable {P : Program} {w : World} {K : PySem.W.Frag} {mg : Str → Option Value} {base : Heap}
theorem calT {x : Str} {st : Stmt} {f : Addr} {fd : FuncData} {N ps : List Str} {k : Nat} (T : List D → List Fld → D → List Fld → Prop) (F : C8.Def K mg x st f fd) (b : Binds K fd ps []) (S : FnScope N ps (C8.fnScope st)) (len : ∀ ds fs d fs', T ds fs d fs' → ds.length + 1 = ps.length) (hpN : ps.length ≤ N.length)
    (hbody : ∀ (cdv : Value) (A : Around) (outer : List Env) (s : Shared) (H : Hp) (E : XK), Room k (A.deeper (envOfC x (C8.fnScope st) s.heap.objs.size f cdv)) → ∀ (q : Addr) ds fs d fs', T ds fs d fs' →
      SD (cxOf C8.CX0 P w K mg base N x (C8.fnScope st) f cdv A outer s H E).nox (lastS N.length ds q fs) (C8.fnBody st) { nx := fun ss' => d = .non ∧ ss'[ds.length]? = some (.tp q fs'), rt := fun t ss' => t = .im d ∧ ss'[ds.length]? = some (.tp q fs') }) : C8.Cal P w K mg base (k + 1) x (spT ⟨P, w, K⟩ T) [] := by
  refine C8.cal0 F b .nil S (fun vs H Q E h => ?_) (fun cdv A outer s H vs Q E hr h => ⟨wSs _ _, pss_w, ?_⟩)
  · obtain ⟨G, ds, q, us, fs, d, fs', rfl, _, _, _, _, r, t, _⟩ := h
    rw [List.length_append, r.length, ← len ds fs d fs' t]
    rfl
  · obtain ⟨G, ds, q, us, fs, d, fs', rfl, i, at', off, nd, r, t, kk⟩ := h
    have hl : ds.length + 1 ≤ N.length := by rw [len ds fs d fs' t]; exact hpN
    have g := Grow.lessRefl i off
    refine hbody cdv A outer s H E hr q ds fs d fs' t G (lessH H (Slot.tp q fs).fp) G H _ g (last_at r hl at' (fun a ha => ⟨off a ha, lessH_in ha⟩) nd) _ ⟨fun G2 H2 σ2 ss2 g2 s2 h2 => ?_, fun G2 H2 σ2 ss2 v2 t2 g2 s2 a1 a2 a3 a4 a5 => ?_, fun G1 H1 σ1 ss1 g1 s1 h1 => h1.elim, fun G1 H1 σ1 ss1 g1 s1 h1 => h1.elim⟩
    · obtain ⟨hd, hs⟩ := h2
      obtain ⟨v, _, at2⟩ := s2.got hs (by intro z; cases z)
      have ev : v = .ref q := at2.1
      rw [ev] at at2
      rw [hd] at kk
      exact kk _ G2 H2 g2 .non at2 (s2.off _ _ hs) (s2.nd _ _ hs)
    · obtain ⟨hd, hs⟩ := a5
      obtain ⟨v, _, at2⟩ := s2.got hs (by intro z; cases z)
      have ev : v = .ref q := at2.1
      rw [ev] at at2
      rw [hd] at a1
      exact kk _ G2 H2 g2 a1 at2 (s2.off _ _ hs) (s2.nd _ _ hs)
end
section
variable {X : Cx} {ss ss' : List Slot} {e : Expr} {es : List Expr} {pos p p' : Pos} {x y : Str} {k j : Nat} {T : List D → List Fld → D → List Fld → Prop}
/-- arguments, such a tuple last -/
def EAT (X : Cx) (ss : List Slot) (es : List Expr) (ds : List D) (q : Addr) : Prop := ∀ H0 G H σ, Ex G H → Sls (wd X) H0 G H σ ss → ∀ Q : List V → Hp → Prop, (∀ vs G' H', Grow G H G' H' → RpA (wd X) G' vs ds → Q (vs ++ [.ref q]) H') → wA X es σ H Q
theorem eat_tp (i : Nat) {q : Addr} {fs : List Fld} (hs : ss[i]? = some (.tp q fs)) (hN : X.N[i]? = some y := by first | kernel_rfl! | rfl) (hv : Vis X.env.scope y := by first | exact Or.inl (by kernel_rfl!) | exact Or.inr (Or.inl (by kernel_rfl!)) | exact Or.inr (Or.inr (by kernel_rfl!)) | exact Or.inl rfl | exact Or.inr (Or.inl rfl) | exact Or.inr (Or.inr rfl)) (hd : (y == ("__debug__" : Str)) = false := by decide) (hcd : (y == ("__classdict__" : Str)) = false := by decide)
    (hst : starEach [.Name y p'] X.env = (false, eval (.Name y p') X.env) :: starEach [] X.env := by first | kernel_rfl! | rfl) : EAT X ss [.Name y p'] [] q := fun H0 G H σ i0 s Q kk => by
  obtain ⟨v, ev, at0⟩ := s.got hs (by intro z; cases z)
  have e1 : v = .ref q := at0.1
  subst e1
  exact wA.of (pa_cons (pe_var hN hv hd hcd) pa_w hst) ⟨_, ev, wA.of pa_nil (kk [] G H (.refl i0) .nil)⟩
theorem eat_cons {d : D} {ds : List D} {q : Addr} (ha : EE X ss e d) (hr : EAT X ss es ds q) (hst : starEach (e :: es) X.env = (false, eval e X.env) :: starEach es X.env := by first | kernel_rfl! | rfl) : EAT X ss (e :: es) (d :: ds) q := fun H0 G H σ i s Q k =>
  wA.of (pa_cons pe_w pa_w hst) (ha H0 G H σ i s _ fun v G1 H1 g1 r1 => hr H0 G1 H1 σ g1.i (s.grow g1) _ fun vs G2 H2 g2 r2 => k (v :: vs) G2 H2 (g1.trans g2) (.cons (r1.up g2.g) r2))
/-- f(.., told) -/
theorem ef_callT (i : Nat) {q : Addr} {fs fs' : List Fld} {ds : List D} {d : D} (c : C8.Cal X.prog X.w X.K X.mg X.base k x (spT (wd X) T) []) (hr : Room j X.A) (hk : k ≤ j) (hs : ss[i]? = some (.tp q fs)) (ha : EAT X ss (e :: es) ds q) (hT : T ds fs d fs')
    (hg : Gl X x := by first | kernel_rfl! | rfl) (hdb : (x == ("__debug__" : Str)) = false := by decide)
    (he : starEach (e :: es) X.env = (false, eval e X.env) :: starEach es X.env := by first | kernel_rfl! | rfl) (hpl : (backTo pos (starEach es X.env)).any (·.1) = false := by first | kernel_rfl! | rfl) : EF X ss (.Call (.Name x p) (e :: es) [] pos) d (ss.set i (.tp q fs')) := fun G0 H0 G H σ g s Q kk => by
  refine wE.of (C8.pe_c c hr hk hg pa_w hdb he hpl) (ha H0 G H σ g.i s _ fun vs G1 H1 g1 r1 => ?_)
  have s1 := s.grow g1
  obtain ⟨v2, ev2, at2⟩ := s1.got hs (by intro z; cases z)
  have e2 : v2 = .ref q := at2.1
  subst e2
  refine ⟨G1, ds, q, vs, fs, d, fs', by rw [List.append_nil], g1.i, at2, fun a ha => (s1.off i _ hs a ha).1, s1.nd i _ hs, r1, hT, fun v G' H' g' r at' off nd => ?_⟩
  exact kk v G' H' ((g.trans g1).less (fun a ha => (s1.off i _ hs a ha).2) g') (s1.thruTp (g.trans g1).h hs g' at' off nd) r
end
end Fw
namespace Fw
open PySem PySem.Spec PyProof.Rows L2
/-! ### a tuple of new lists, made -/
section
variable {X : Cx} {ss : List Slot} {a b c e : Expr} {es : List Expr} {pos p p' p2 px py pz pt pt2 : Pos} {P : Post}
def EFN (X : Cx) (ss : List Slot) (es : List Expr) (R : List Fld → Prop) : Prop := ∀ H0 G H σ, Ex G H → Sls (wd X) H0 G H σ ss → ∀ Q : List V → Hp → Prop, (∀ vs fs G' H', R fs → Grow G H G' H' → FldsAt (wd X) G' H' vs fs → (∀ a ∈ fs.flatMap (·.fp), G' a = none ∧ H a = none) → (fs.flatMap (·.fp)).Nodup → Q vs H') → wA X es σ H Q
def ETp (X : Cx) (ss : List Slot) (e : Expr) (R : List Fld → Prop) : Prop := ∀ H0 G H σ, Ex G H → Sls (wd X) H0 G H σ ss → ∀ Q : VK, (∀ q fs G' H', R fs → Grow G H G' H' → SlotAt (wd X) G' H' (.ref q) (.tp q fs) → (∀ a ∈ (Slot.tp q fs).fp, G' a = none ∧ H a = none) → (Slot.tp q fs).fp.Nodup → Q (.ref q) H') → wE X e σ H Q
theorem efn_nil : EFN X ss [] fun fs => fs = [] := fun H0 G H σ i s Q k => wA.of pa_nil (k [] [] G H rfl (.refl i) .nil (fun _ h => nomatch h) List.nodup_nil)
theorem efn_new {ds : List D} {R : List Fld → Prop} (ha : EO X ss e ds) (hr : EFN X ss es R) (hs : starEach (e :: es) X.env = (false, eval e X.env) :: starEach es X.env := by first | kernel_rfl! | rfl) : EFN X ss (e :: es) fun fs => ∃ p gs, fs = .ow p ds :: gs ∧ R gs := fun H0 G H σ i s Q k =>
  wA.of (pa_cons pe_w pa_w hs) (ha H0 G H σ i s _ fun p vs G1 H1 hp g1 n1 h1 r1 => hr H0 G1 H1 σ g1.i (s.grow g1) _ fun us fs G2 H2 t g2 r2 off nd => by
    refine k _ (.ow p ds :: fs) G2 H2 ⟨p, fs, rfl, t⟩ (g1.trans g2) (.cons ⟨rfl, vs, g2.h _ _ h1, r1.up g2.g⟩ r2) (fun x hx => ?_) ?_
    · rw [List.flatMap_cons] at hx
      rcases List.mem_append.mp hx with z | z
      · rw [List.mem_singleton.mp z]
        exact ⟨g2.off h1 n1, hp⟩
      · exact ⟨(off x z).1, g1.h.back (off x z).2⟩
    · rw [List.flatMap_cons, List.nodup_append]
      refine ⟨List.pairwise_singleton _ _, nd, fun x hx y hy e => ?_⟩
      rw [List.mem_singleton.mp hx] at e
      have := (off y hy).2
      rw [← e, h1] at this
      cases this)
theorem etp_tup {R : List Fld → Prop} {x1} (h : EFN X ss es R) (hl : es.length ≤ 1000 := by decide) (hR : ∀ fs, R fs → fs.length ≤ 100000) : ETp X ss (.Tuple es x1 p2) R := fun H0 G H σ i s Q k =>
  wE.of (pe_tup pa_w) (h H0 G H σ i s _ fun vs fs G1 H1 t g1 r1 off nd => by
    refine ⟨Nat.le_trans (by rw [fldsAt_len r1]; exact hR fs t) (by decide), fun p hp => ?_⟩
    have gn : Grow G1 H1 (upd G1 p (.tup vs)) (upd H1 p (.tup vs)) := .new g1.i hp
    have at' : SlotAt (wd X) (upd G1 p (.tup vs)) (upd H1 p (.tup vs)) (.ref p) (.tp p fs) := ⟨rfl, vs, upd_same, r1.mono gn.g gn.h⟩
    refine k p fs _ _ t (g1.trans gn) at' (fun x hx => ⟨?_, (off x hx).2⟩) nd
    rw [upd_ne (ne_of_none (r1.dom x hx).choose_spec hp)]
    exact (off x hx).1)
theorem etp_cast {R R' : List Fld → Prop} (h : ETp X ss e R) (q : ∀ fs, R fs → R' fs) : ETp X ss e R' := fun H0 G H σ i s Q k => h H0 G H σ i s Q fun p fs G' H' t => k p fs G' H' (q fs t)
/-- x, y, z = a, (a tuple of new lists), c -/
theorem ss_par3T (i j l : Nat) {x y z : Str} {d1 d3 : D} {R : List Fld → Prop} {kt k2} (h1 : EE X ss a d1) (h2 : ETp X ss b R) (h3 : EE X ss c d3) (k : ∀ q fs, R fs → P.nx (((ss.set i (.im d1)).set j (.tp q fs)).set l (.im d3))) (hN : X.N.Nodup) (hij : i ≠ j := by decide) (hil : i ≠ l := by decide) (hjl : j ≠ l := by decide) (hi : (ss[i]?).isSome = true := by first | kernel_rfl! | rfl) (hj : (ss[j]?).isSome = true := by first | kernel_rfl! | rfl) (hl : (ss[l]?).isSome = true := by first | kernel_rfl! | rfl) (hxi : X.N[i]? = some x := by first | kernel_rfl! | rfl) (hyj : X.N[j]? = some y := by first | kernel_rfl! | rfl) (hzl : X.N[l]? = some z := by first | kernel_rfl! | rfl)
    (hx : X.env.scope.names.lookup x = some .local := by first | kernel_rfl! | rfl) (hy : X.env.scope.names.lookup y = some .local := by first | kernel_rfl! | rfl) (hz : X.env.scope.names.lookup z = some .local := by first | kernel_rfl! | rfl) (hc : X.calm = true := by first | kernel_rfl! | rfl)
    (he1 : starEach [a, b, c] X.env = (false, eval a X.env) :: starEach [b, c] X.env := by first | kernel_rfl! | rfl) (he2 : starEach [b, c] X.env = (false, eval b X.env) :: starEach [c] X.env := by first | kernel_rfl! | rfl) (he3 : starEach [c] X.env = (false, eval c X.env) :: starEach [] X.env := by first | kernel_rfl! | rfl)
    (hw : swappedStores [.Tuple [.Name x px, .Name y py, .Name z pz] kt pt] (.Tuple [a, b, c] k2 pt2) X.env = pure (some [x, y, z]) := by first | kernel_rfl! | rfl)
    (hs : swapsWithSole [.Tuple [.Name x px, .Name y py, .Name z pz] kt pt] (.Tuple [a, b, c] k2 pt2) pos.line X.env = pure false := by first | kernel_rfl! | rfl) : SS X ss (.Assign [.Tuple [.Name x px, .Name y py, .Name z pz] kt pt] (.Tuple [a, b, c] k2 pt2) pos) P := fun G0 H0 G H σ g s E q =>
  wS.of (ps_par3 hc hN hxi hyj hzl hij hil hjl hx hy hz (pa_cons pe_w (pa_cons pe_w (pa_cons pe_w pa_nil he3) he2) he1) hw hs) (h1 H0 G H σ g.i s _ fun v1 G1 H1 g1 r1 => h2 H0 G1 H1 σ g1.i (s.grow g1) _ fun p fs G2 H2 t g2 at2 off nd => h3 H0 G2 H2 σ g2.i ((s.grow g1).grow g2) _ fun v3 G3 H3 g3 r3 => by
    refine ⟨_, _, _, rfl, q.nx G3 H3 _ _ (g.trans (g1.trans (g2.trans g3))) ?_ (k p fs t)⟩
    have s1 := (s.grow g1).im (lt_some hi) r1
    have s2 := (s1.grow g2).put (i := j) (v := .ref p) (s := .tp p fs) (by rw [List.length_set]; exact lt_some hj) (.inr at2) (fun a ha => ⟨(off a ha).1, (g.trans g1).h.back (off a ha).2⟩) nd fun j' t _ ht a ha hb => by
      obtain ⟨o, ho⟩ := s1.dom ht hb
      rw [(off a ha).2] at ho
      cases ho
    exact (s2.grow g3).im (by rw [List.length_set, List.length_set]; exact lt_some hl) r3)
end
end Fw
namespace Fw
open PySem PySem.Spec PyProof.Rows L2
/-! ### the order of names -/
def slt (x y : Str) : Prop := x.cps.toList < y.cps.toList
instance (x y : Str) : Decidable (slt x y) := inferInstanceAs (Decidable (x.cps.toList < y.cps.toList))
theorem slt_irrefl (x : Str) : ¬ slt x x := List.lt_irrefl _
theorem slt_trans {x y z : Str} (h : slt x y) (g : slt y z) : slt x z := List.lt_trans h g
theorem slt_tri (x y : Str) : slt x y ∨ x = y ∨ slt y x := by
  by_cases h1 : slt x y
  · exact .inl h1
  · by_cases h2 : slt y x
    · exact .inr (.inr h2)
    · refine .inr (.inl ?_)
      have e : x.cps.toList = y.cps.toList := List.le_antisymm (List.not_lt.mp h2) (List.not_lt.mp h1)
      obtain ⟨⟨a⟩⟩ := x
      obtain ⟨⟨b⟩⟩ := y
      exact congrArg (fun l : List Nat => (⟨⟨l⟩⟩ : Str)) e
def sle (x y : Str) : Bool := !decide (slt y x)
theorem sle_total (x y : Str) : (sle x y || sle y x) = true := by
  unfold sle
  by_cases h : slt y x
  · have : ¬ slt x y := fun g => slt_irrefl _ (slt_trans h g)
    simp [h, this]
  · simp [h]
theorem sle_trans (x y z : Str) (h : sle x y = true) (g : sle y z = true) : sle x z = true := by
  unfold sle at *
  simp only [Bool.not_eq_true', decide_eq_false_iff_not] at *
  intro q
  rcases slt_tri x y with a | a | a
  · exact g (slt_trans q a)
  · subst a
    exact g q
  · exact h a
theorem sle_anti (x y : Str) (h : sle x y = true) (g : sle y x = true) : x = y := by
  unfold sle at *
  simp only [Bool.not_eq_true', decide_eq_false_iff_not] at *
  rcases slt_tri x y with a | a | a
  · exact absurd a g
  · exact a
  · exact absurd a h
def sortS (l : List Str) : List Str := l.mergeSort sle
theorem sortS_perm (l : List Str) : (sortS l).Perm l := List.mergeSort_perm l sle
theorem sortS_sorted (l : List Str) : (sortS l).Pairwise (fun a b => sle a b = true) := List.pairwise_mergeSort (fun a b c => sle_trans a b c) (fun a b => sle_total a b) l
theorem sorted_uniq {l k : List Str} (p : l.Perm k) (h : l.Pairwise (fun a b => sle a b = true)) (g : k.Pairwise (fun a b => sle a b = true)) : l = k := List.Perm.eq_of_pairwise (fun a b _ _ => sle_anti a b) h g p
end Fw
namespace Fw
open PySem PySem.Spec PyProof.Rows L2 PySem.W
section
variable {X : Cx}
def leD (a b : D) : Bool := dataLe false (fun d : D => d.py) a b
/-- sorted(l) of data that can be sorted -/
def rSortD (K : PySem.W.Frag) : List V → Hp → VK → Prop := fun vs H Q => ∃ (a : Addr) (bs : List (V × PyData)), vs = [V.ref a] ∧ SqL K H a (bs.map (·.1)) ∧ (∀ q ∈ bs, Dp K H q.1 q.2) ∧ AllAlike (bs.map (·.2)) ∧ Sortable (bs.map (·.2)) ∧ (∀ q ∈ bs, q.2.depth ≤ 8) ∧
  ∀ p, H p = none → Q (.ref p) (upd H p (.lst ((bs.mergeSort (dataLe false (·.2))).map (·.1))))
theorem each_of {pins : List (Addr × Obj)} {σ : L2.St} {H : Hp} {s : Shared} (I : Inv X pins σ H s) : ∀ {bs : List (V × PyData)} {us : List Value}, Vals (bs.map (·.1)) us → (∀ q ∈ bs, Dp X.K H q.1 q.2) → EachIs (fun u (b : V × PyData) => RelV b.1 u) us bs ∧ EachIs (fun u (b : V × PyData) => ∃ as, Reads s.heap u b.2 as) us bs
  | [], _, .nil, _ => ⟨.nil, .nil⟩
  | b :: bs, _, .cons r t, h => by
    obtain ⟨h1, h2⟩ := each_of I (bs := bs) t fun q hq => h q (List.mem_cons_of_mem _ hq)
    exact ⟨.cons r h1, .cons (Dp.reads I b.2 b.1 _ (h b List.mem_cons_self) r) h2⟩
theorem vals_each : ∀ {us : List Value} {bs : List (V × PyData)}, EachIs (fun u (b : V × PyData) => RelV b.1 u) us bs → Vals (bs.map (·.1)) us
  | _, _, .nil => .nil
  | _, _, .cons r t => .cons r (vals_each t)
theorem cr_sortD (hu : X.A.units + 64 < cLine) : CallR X (.builtin "sorted") (rSortD X.K) := by
  intro pins s σ H vs us Q I r h
  obtain ⟨a, bs, rfl, hs, hd, al, so, dp, q⟩ := h
  obtain ⟨its, rv, hl, hz⟩ := I.list hs
  rw [Vals.ref1 r]
  rw [List.length_map] at hz
  obtain ⟨e1, e2⟩ := each_of I rv hd
  refine sorted_data (enc := (·.2)) hl.isList e1 e2 al so hz (fun b hb => by have := dp b hb; omega) fun out hlo ho => ?_
  obtain ⟨ep, he'⟩ := PyProof.Rows.sortedAll_at s.heap its out.toArray
  have hlen : ((bs.mergeSort (dataLe false (·.2))).map (·.1)).length ≤ sizeLine := by rw [List.length_map, List.length_mergeSort]; exact hz
  exact ⟨.ref _, upd H (s.heap.objs.size + 1) (.lst _), I.laid (t' := s.toks) (fun _ _ => PyProof.Rows.sortedAll_old) (Nat.le_succ _) ⟨hlen, out, ep, vals_each ho, he'⟩, rfl, q _ (I.hok.fresh (Nat.le_succ _))⟩
end
section
variable {W : Wd} {H : Hp}
theorem RpA.zipD (n : Nat) : ∀ {vs : List V} {ds : List D}, RpA W H vs ds → D.oks n ds = true → (vs.zip (D.pys ds)).map (·.1) = vs ∧ (vs.zip (D.pys ds)).map (·.2) = D.pys ds ∧ ∀ q ∈ vs.zip (D.pys ds), Dp W.K H q.1 q.2
  | _, _, .nil, _ => ⟨rfl, rfl, fun _ h => by cases h⟩
  | _, d :: ds, .cons a t, o => by
    rw [D.oks, Bool.and_eq_true] at o
    obtain ⟨h1, h2, h3⟩ := RpA.zipD n t o.2
    refine ⟨by rw [D.pys, List.zip_cons_cons, List.map_cons, h1], by rw [D.pys, List.zip_cons_cons, List.map_cons, h2], fun q hq => ?_⟩
    rw [D.pys, List.zip_cons_cons] at hq
    rcases List.mem_cons.mp hq with rfl | hq
    · exact Rp.dp n d _ o.1 a
    · exact h3 q hq
/-- pairs that stand for data stay so however they are put in order -/
theorem RpA.of_pairs : ∀ {ps : List (V × D)}, (∀ q ∈ ps, Rp W H q.1 q.2) → RpA W H (ps.map (·.1)) (ps.map (·.2))
  | [], _ => .nil
  | p :: ps, h => .cons (h p List.mem_cons_self) (RpA.of_pairs fun q hq => h q (List.mem_cons_of_mem _ hq))
theorem RpA.pairs : ∀ {vs : List V} {ds : List D}, RpA W H vs ds → ∀ q ∈ vs.zip ds, Rp W H q.1 q.2
  | _, _, .nil, _, h => by cases h
  | _, _, .cons a t, q, h => by
    rw [List.zip_cons_cons] at h
    rcases List.mem_cons.mp h with rfl | h
    · exact a
    · exact RpA.pairs t q h
end
section
variable {X : Cx} {ss : List Slot} {e : Expr} {pos p : Pos}
/-- sorted(e), e a list of data -/
theorem eo_sortD {n : Nat} {ds : List D} (hm : X.mg "sorted" = none) (hu : X.A.units + 64 < cLine) (ha : EE X ss e (.lst ds)) (o : D.oks n ds = true) (hn : n ≤ 8) (al : AllAlike (ds.map D.py)) (so : Sortable (ds.map D.py)) (hg : Gl X "sorted" := by rfl) (he : starEach [e] X.env = (false, eval e X.env) :: starEach [] X.env := by rfl) (hpl : (backTo pos (starEach [] X.env)).any (·.1) = false := by rfl) :
    EO X ss (.Call (.Name "sorted" p) [e] [] pos) (ds.mergeSort leD) :=
  eo_B (cr_sortD hu) hm (by decide +kernel) (ea_cons ha ea_nil he) (fun G H xs i r Q k => by
    cases r with
    | cons r t =>
      cases t
      cases r with
      | lst q r =>
        rename_i a xs
        have lz : (xs.zip ds).map (·.1) = xs := by rw [List.map_fst_zip (by rw [r.length]; exact Nat.le_refl _)]
        have lz2 : (xs.zip ds).map (·.2) = ds := by rw [List.map_snd_zip (by rw [r.length]; exact Nat.le_refl _)]
        refine ⟨a, (xs.zip ds).map fun q => (q.1, q.2.py), rfl, ?_, fun q' hq => ?_, ?_, ?_, fun q' hq => ?_, fun p' hp => ?_⟩
        · rw [List.map_map, show ((fun x : V × PyData => x.1) ∘ fun q : V × D => (q.1, q.2.py)) = (fun q : V × D => q.1) from rfl, lz]
          exact SqL.of (i _ _ q)
        · obtain ⟨q1, h1, rfl⟩ := List.mem_map.mp hq
          have hd : q1.2 ∈ ds := by
            have := List.mem_map_of_mem (f := Prod.snd) h1
            rw [lz2] at this
            exact this
          have o1 : D.ok n q1.2 = true := by
            rw [D.oks_all] at o
            exact List.all_eq_true.mp o _ hd
          exact ((RpA.pairs r q1 h1).up i).dp n _ _ o1
        · rw [List.map_map, show ((fun x : V × PyData => x.2) ∘ fun q : V × D => (q.1, q.2.py)) = D.py ∘ (fun q : V × D => q.2) from rfl, ← List.map_map, lz2]
          exact al
        · rw [List.map_map, show ((fun x : V × PyData => x.2) ∘ fun q : V × D => (q.1, q.2.py)) = D.py ∘ (fun q : V × D => q.2) from rfl, ← List.map_map, lz2]
          exact so
        · obtain ⟨q1, h1, rfl⟩ := List.mem_map.mp hq
          have hd : q1.2 ∈ ds := by
            have := List.mem_map_of_mem (f := Prod.snd) h1
            rw [lz2] at this
            exact this
          have o1 : D.ok n q1.2 = true := by
            rw [D.oks_all] at o
            exact List.all_eq_true.mp o _ hd
          exact Nat.le_trans (D.lay n _ o1).2 hn
        · have e1 : ((xs.zip ds).map fun q => (q.1, q.2.py)).mergeSort (dataLe false (·.2)) = ((xs.zip ds).mergeSort fun a b => leD a.2 b.2).map fun q => (q.1, q.2.py) := by
            refine (List.map_mergeSort fun a _ b _ => ?_).symm
            rfl
          rw [e1, List.map_map, show ((fun x : V × PyData => x.1) ∘ fun q : V × D => (q.1, q.2.py)) = (fun q : V × D => q.1) from rfl]
          have e2 : ds.mergeSort leD = ((xs.zip ds).mergeSort fun a b => leD a.2 b.2).map (·.2) := by
            rw [List.map_mergeSort (s := leD) (f := fun q : V × D => q.2) (fun a _ b _ => rfl), lz2]
          refine GivO.new k i hp ?_
          rw [e2]
          exact RpA.of_pairs fun q' hq => RpA.pairs r q' ((List.mergeSort_perm _ _).mem_iff.mp hq)) hg (by decide) (by decide) he hpl
theorem py_str (x : Str) : (D.str x).py = .str x := rfl
theorem leD_str (x y : Str) : leD (.str x) (.str y) = sle x y := by
  have h := congrFun (congrFun (dataLe_str (fun b : Str => b)) x) y
  have h2 : leD (.str x) (.str y) = dataLe false (fun b : Str => PyData.str b) x y := rfl
  rw [h2, h]
  unfold sle
  by_cases g : slt y x
  · have : ¬ x.cps.toList ≤ y.cps.toList := fun z => z g
    rw [decide_eq_true g, decide_eq_false this]
    rfl
  · have : x.cps.toList ≤ y.cps.toList := g
    rw [decide_eq_false g, decide_eq_true this]
    rfl
theorem eo_sortS {xs : List Str} (hm : X.mg "sorted" = none) (hu : X.A.units + 64 < cLine) (ha : EE X ss e (.lst (xs.map .str))) (hx : ∀ x ∈ xs, PyData.strOk x = true) (hg : Gl X "sorted" := by rfl) (he : starEach [e] X.env = (false, eval e X.env) :: starEach [] X.env := by rfl) (hpl : (backTo pos (starEach [] X.env)).any (·.1) = false := by rfl) :
    EO X ss (.Call (.Name "sorted" p) [e] [] pos) ((sortS xs).map .str) :=
  (eo_sortD (n := 0) hm hu ha (by
    rw [D.oks_all, List.all_eq_true]
    intro d hd
    obtain ⟨x, h, rfl⟩ := List.mem_map.mp hd
    simpa [D.ok] using hx x h) (by decide) (by
    rw [List.map_map]
    exact AllAlike.of fun _ _ => rfl) (by
    rw [List.map_map]
    exact Sortable.others fun b => ⟨fun z => PyData.noConfusion z, fun xs z => PyData.noConfusion z⟩) hg he hpl).cast (by
    unfold sortS
    rw [List.map_mergeSort (s := leD)]
    intro a _ b _
    exact (leD_str a b).symm)
end
end Fw
namespace Fw
open PySem PySem.Spec PyProof.Rows L2
open PySem.W
section
variable {X : Cx} {ss : List Slot} {a b e : Expr} {A : List Stmt} {h₀ : ExceptHandler} {hs : List ExceptHandler} {pos p p' p2 apos tpos : Pos} {x : Str} {P : Post}
/-- try: A / except ..: .., where A raises nothing -/
theorem ss_try (h : SD X ss A P) (hx : X.nox = X := by rfl) : SS X ss (.Try A (h₀ :: hs) [] [] pos) P := fun G0 H0 G H σ g s E q =>
  wS.of (ps_try_thru0 (by rw [hx]; exact pss_w)) (h G0 H0 G H σ g s E q)
/-- a.index(b) -/
theorem ee_index {n m j : Nat} {ds : List D} {d : D} (hu : X.A.units + 65 < cLine) (ha : EE X ss a (.lst ds)) (hb : EE X ss b d) (h1 : D.ok n d = true) (h2 : D.oks m ds = true) (hn : n ≤ 64) (hm : m < 64) (hz : ds[j]? = some d) (hno : ∀ k, k < j → ds[k]? ≠ some d)
    (hbase : attributeBase a "index" X.env (eval a X.env) = eval a X.env := by first | kernel_rfl! | rfl)
    (hfew : ((backTo p (starEach [b] X.env)).all (fun x => !x.1) && (backToKw p (keywordEach [] X.env)).all (fun x => x.1.isSome)
      && decide (([b] : List Expr).length + ([] : List Keyword).length + (if ([] : List Keyword).isEmpty then 0 else 1) < 30)) = true := by first | kernel_rfl! | rfl)
    (hline : (apos.endLine == p.line) = true := by first | kernel_rfl! | rfl) (hse : starEach [b] X.env = (false, eval b X.env) :: starEach [] X.env := by first | kernel_rfl! | rfl) (hplain : (backTo p (starEach [] X.env)).any (·.1) = false := by first | kernel_rfl! | rfl) :
    EE X ss (.Call (.Attribute a "index" apos) [b] [] p) (.int j) := fun H0 G H σ i s Q k =>
  wE.of (pe_bm PySem.F.plainAttrs_list PySem.F.slot_list_index PySem.F.type_list_index (mt_indexD hu) pe_w (pa_cons pe_w pa_nil hse) hbase hfew hline hse hplain) (ha H0 G H σ i s _ fun v G1 H1 g1 r1 => by
    have r1' := r1
    cases r1 with
    | lst sq r =>
      refine ⟨.inl ⟨rfl, _, SqL.of (g1.i _ _ sq)⟩, hb H0 G1 H1 σ g1.i (s.grow g1) _ fun u G2 H2 g2 r2 => ?_⟩
      have hz' : (D.pys ds)[j]? = some d.py := by rw [D.pys_map, List.getElem?_map, hz]; rfl
      refine ⟨_, u, d.py, D.pys ds, j, d.py, rfl, rfl, ((r1'.up g2.g).up g2.i).dp (m + 1) _ _ (by simpa [D.ok] using h2), (r2.up g2.i).dp _ _ _ h1, D.shaped (n := m + 1) (d := .lst ds) (by simpa [D.ok] using h2) hm, D.shaped h1 hn, hz', (D.eqv n n d d h1 h1).mpr rfl, fun t z ht hzt => ?_, k _ G2 H2 (g1.trans g2) (.int _)⟩
      rw [D.pys_map, List.getElem?_map] at hzt
      obtain ⟨z', hz1, rfl⟩ := Option.map_eq_some_iff.mp hzt
      have hok : D.ok m z' = true := by
        rw [D.oks_all, List.all_eq_true] at h2
        exact h2 z' (List.mem_of_getElem? hz1)
      cases he : PyData.eqv z'.py d.py with
      | false => rfl
      | true =>
        rw [(D.eqv m n z' d hok h1).mp he] at hz1
        exact absurd hz1 (hno t ht))
def rLtD (K : PySem.W.Frag) : R2 := fun x y H Q => ∃ da db : PyData, Dp K H x da ∧ Dp K H y db ∧ alike da db = true ∧ da ≠ .none ∧ da.depth ≤ 60 ∧ Q (.bl (dataLt da db)) H
theorem op_ltD (hu : X.A.units + 64 < cLine) : OpR X (compareOp .Lt) (rLtD X.K) := by
  intro pins s σ H x y v u Q I rx ry h
  obtain ⟨da, db, hd, he, al, nn, dp, q⟩ := h
  obtain ⟨as, r1⟩ := Dp.reads I da x v hd rx
  obtain ⟨bs, r2⟩ := Dp.reads I db y u he ry
  exact lt_data r1 r2 al nn (by omega) ⟨.bl _, H, I, rfl, q⟩
def ltIs (l m : List Int) : Bool := dataLt (.list (l.map .int)) (.list (m.map .int))
theorem alike_ints : ∀ l m : List Int, alikeAll (l.map .int) (m.map .int) = true
  | [], _ => by simp [alikeAll]
  | _ :: _, [] => by simp [alikeAll]
  | x :: xs, y :: ys => by
    have := alike_ints xs ys
    simp only [List.map_cons, alikeAll, this]
    simp [alike]
theorem ints_py (l : List Int) : (D.lst (l.map .int)).py = .list (l.map .int) := by
  rw [D.py, D.pys_map, List.map_map]
  rfl
theorem ints_ok (l : List Int) : D.oks 0 (l.map .int) = true := by
  rw [D.oks_all, List.all_eq_true]
  intro d hd
  obtain ⟨z, _, rfl⟩ := List.mem_map.mp hd
  rfl
theorem ints_depth (l : List Int) : (PyData.list (l.map .int)).depth ≤ 60 := by
  have : PyData.depthAll (l.map .int) ≤ 1 := by
    induction l with
    | nil => simp [PyData.depthAll]
    | cons x r ih =>
      simp only [List.map_cons, PyData.depthAll, PyData.depth]
      omega
  simp only [PyData.depth]
  omega
theorem cmp_ltIs {l m : List Int} (hu : X.A.units + 64 < cLine) : CmpD X .Lt (.lst (l.map .int)) (.lst (m.map .int)) (ltIs l m) := ⟨_, op_ltD hu, fun G H u v i rx ry Q q => by
  have h1 := (rx.up i).dp 1 _ _ (show D.ok 1 (.lst (l.map .int)) = true by simpa [D.ok] using ints_ok l)
  have h2 := (ry.up i).dp 1 _ _ (show D.ok 1 (.lst (m.map .int)) = true by simpa [D.ok] using ints_ok m)
  rw [ints_py] at h1 h2
  exact ⟨_, _, h1, h2, by simpa [alike] using alike_ints l m, by simp, ints_depth l, Giv.here q i (.bl _)⟩⟩
/-- x[k] = e, x an owned list -/
theorem ss_setIx (i : Nat) {q : Addr} {ds : List D} {d : D} {k : Int} {j : Nat} (hs : ss[i]? = some (.ow q ds)) (hv' : EE X ss e d) (hb : EE X ss b (.int k)) (hj : ixN ds.length k = some j) (kk : P.nx (ss.set i (.ow q (ds.set j d)))) (hN : X.N[i]? = some x := by first | kernel_rfl! | rfl) (hv : Vis X.env.scope x := by first | exact Or.inl (by kernel_rfl!) | exact Or.inr (Or.inl (by kernel_rfl!)) | exact Or.inr (Or.inr (by kernel_rfl!)) | exact Or.inl rfl | exact Or.inr (Or.inl rfl) | exact Or.inr (Or.inr rfl)) (hdb : (x == ("__debug__" : Str)) = false := by decide)
    (hcd : (x == ("__classdict__" : Str)) = false := by decide) (hsw : swapsWithSole [.Subscript (.Name x p') b tpos] e pos.line X.env = pure false := by first | kernel_rfl! | rfl) (hw : swappedStores [.Subscript (.Name x p') b tpos] e X.env = pure none := by first | kernel_rfl! | rfl)
    (ha1 : (assignEach [.Subscript (.Name x p') b tpos] X.env).map (·.2) = [assign (.Subscript (.Name x p') b tpos) X.env] := by first | kernel_rfl! | rfl)
    (ha2 : ∀ v, assign (.Subscript (.Name x p') b tpos) X.env v = (do
      let ov ← holding [v] (eval (.Name x p') X.env)
      let iv ← holding [v, ov] (eval b X.env)
      standAt tpos
      holding [v, ov, iv] (setItem ov iv v)
      release [v, ov, iv] []) := by intro _; rfl) : SS X ss (.Assign [.Subscript (.Name x p') b tpos] e pos) P := fun G0 H0 G H σ g s E z => by
  refine wS.of (ps_asg pe_w (pg_sub (pe_var hN hv hdb hcd) pe_w set_list ha2) hsw hw ha1) (hv' H0 G H σ g.i s _ fun y G1 H1 g1 r1 => ?_)
  obtain ⟨v, e, ev, vs, hp, r⟩ := (s.grow g1).got hs (by intro z; cases z)
  subst ev
  refine ⟨_, e, hb H0 G1 H1 σ g1.i (s.grow g1) _ fun u G2 H2 g2 r2 => ?_⟩
  have s2 := s.grow (g1.trans g2)
  obtain ⟨n1, n2⟩ := s2.off i _ hs q (List.mem_singleton.mpr rfl)
  cases r2
  refine ⟨q, vs, k, j, rfl, rfl, g2.h _ _ hp, by rw [r.length]; exact hj, ?_⟩
  exact z.nx G2 _ _ _ ((g.trans (g1.trans g2)).mutE n1 n2) (s2.mutL hs (RpA.set j (r.up g2.g) (r1.up g2.g))) kk
end
end Fw
namespace Fw
open PySem PySem.Spec PyProof.Rows L2
/-! ### sets of texts, by their exact payload -/
structure TxR (P : Program) (w : World) (D : Froz.SD) (l : List Str) : Prop extends Froz.TxOk P w D l where
  ris : Ris D.2.2.place.toList
  led : w.params.followText "set-order" = true ∨ D.2.2.led = true
section
variable {P : Program} {w : World} {A : Around} {E : Value → Shared → Prop} {s : Shared}
theorem tailTx_ris (ep : Nat) (es1 : Array (Int × Value)) (t2 : SetTable) (wd : Bool) (r : Ris t2.place.toList) : Ris (Froz.tailTx ep es1 t2 wd).2.2.place.toList := by
  unfold Froz.tailTx
  split
  · exact relayAll_ris t2 es1 _
  · exact r
theorem tailTx_led (ep : Nat) (es1 : Array (Int × Value)) (t2 : SetTable) (wd : Bool) : (Froz.tailTx ep es1 t2 wd).2.2.led = t2.led := by
  unfold Froz.tailTx
  split
  · exact relayAll_led t2 es1 _
  · rfl
theorem TxR.add {D : Froz.SD} {l : List Str} {k : Str} (u : Tok) (F : TxR P w D l) : TxR P w (Froz.addTx (hashStr w k) (.str k u) D) (k :: l) := by
  obtain ⟨es, ep, t⟩ := D
  have r1 := layNew_ris t es (hashStr w k) (.str k u) F.ris
  have l1 := layNew_led t es (hashStr w k) (.str k u)
  refine { toTxOk := Froz.add_ok u F.toTxOk, ris := ?_, led := ?_ }
  · refine tailTx_ris _ _ _ _ ?_
    split <;> exact r1
  · refine F.led.imp id fun z => ?_
    refine (tailTx_led _ _ _ _).trans ?_
    split <;> exact l1.trans z
theorem TxR.fresh {led : Bool} (h : w.params.followText "set-order" = true ∨ led = true) : TxR P w (#[], 0, .fresh 0 0 led) [] where
  toTxOk := Froz.TxOk.nil rfl
  ris := List.Pairwise.nil
  led := h
/-- a text that is in the set already -/
theorem add_old {a : Addr} {T : String} {D : Froz.SD} {l : List Str} {k : Str} {u : Tok} {Q : Bool → Shared → Prop} (here : s.heap.get? a = some (Froz.sObj T D)) (F : Froz.TxOk P w D l) (hk : k ∈ l) (hb : l.length < scanBound) (h : Q false s) : wpAny (model P w) A (setAddHashed a (.str k u) (hashStr w k)) Q E s := by
  obtain ⟨es, ep, t⟩ := D
  have fit : t.fits es.size = true := F.fit
  have ele : ElemsOf (strKind P w) es.toList := F.el
  have siz : es.size = l.length := F.sz
  have few : es.size < scanBound := by omega
  have key := Froz.is_str (P := P) (w := w) k u
  obtain ⟨e0, he0, hp0⟩ := (F.mem k).mp hk
  obtain ⟨j, hj⟩ : ∃ j, List.findIdx? (fun e => (strKind P w).is k e.2) es.toList = some j := by
    cases hf : List.findIdx? (fun e => (strKind P w).is k e.2) es.toList with
    | some j => exact ⟨j, rfl⟩
    | none =>
      have := List.findIdx?_eq_none_iff.mp hf e0 he0
      rw [hp0] at this
      cases this
  unfold setAddHashed setAddHashedIn
  refine wpAny_holding (wpAny_bind (wpAny_setState_of here rfl fit ?_))
  dsimp only
  rw [byScan_of rfl few ele, if_pos rfl]
  unfold setAddByScan
  refine wpAny_bind (wpAny_bind (wpAny_rule (wpAny_bind (wpAny_setScan_of (knd := strKind P w) (k := k) key here rfl fit ele ?_))))
  rw [hj]
  exact wpAny_pure (wpAny_pure h)
/-- what a set object of texts is, for its members -/
def TSet (P : Program) (w : World) (hp : Heap) (a : Addr) (m : List Str) : Prop := ∃ D, hp.get? a = some (Froz.sObj "set" D) ∧ TxR P w D m ∧ m.Nodup
theorem TSet.keep {hp hp' : Heap} {a : Addr} {m : List Str} (h : TSet P w hp a m) (k : ∀ o, hp.get? a = some o → hp'.get? a = some o) : TSet P w hp' a m := by
  obtain ⟨D, h1, h2⟩ := h
  exact ⟨D, k _ h1, h2⟩
/-- one more text -/
theorem tset_add {a : Addr} {m : List Str} {k : Str} {u : Tok} {Q : Bool → Shared → Prop} (R : TSet P w s.heap a m) (hb : m.length + 1 < scanBound) (h : ∀ (hp' : Heap) (b : Bool), (∀ c o, c ≠ a → s.heap.get? c = some o → hp'.get? c = some o) → TSet P w hp' a (if k ∈ m then m else k :: m) → Q b { s with heap := hp' }) : wpAny (model P w) A (setAddHashed a (.str k u) (hashStr w k)) Q E s := by
  obtain ⟨D, here, F, nd⟩ := R
  by_cases hk : k ∈ m
  · refine add_old here F.toTxOk hk (by omega) (h s.heap false (fun _ _ _ e => e) ?_)
    rw [if_pos hk]
    exact ⟨D, here, F, nd⟩
  · refine Froz.add_x here F.toTxOk hk hb (h _ true (fun c o hc e => (Heap.get?_update_ne _ _ _ _ hc).trans e) ?_)
    rw [if_neg hk]
    exact ⟨_, Froz.get_upd _ here rfl, F.add u, List.nodup_cons.mpr ⟨hk, nd⟩⟩
end
end Fw
namespace Fw
open PySem PySem.Spec PyProof.Rows L2
theorem nat_a {a b : Nat} (h : a < b) : a ≠ b + 1 := by omega
theorem nat_b {a b : Nat} (h : a < b) : b ≠ b + 1 ∧ b ≠ a := by omega
theorem nat_c {a b : Nat} (h : a < b) : a ≠ b ∧ a ≠ b + 1 := by omega
section
variable {P : Program} {w : World} {A : Around} {E : Value → Shared → Prop} {s : Shared}
/-- the loop of set(..): the members so far -/
theorem tset_loop {I S : Addr} {fp wr : List Addr} {Gg : Array GenState → Array GenState → Prop} {n : Nat} {Pv : Nat → Value → Prop} {St : Nat → Shared → Prop} {R : Result → Shared → Prop}
    (Wk : WalksS P w A.in1 I fp wr Gg n Pv St) (out : S ∉ fp) (xs : List Str) (hn : n = xs.length) (room : xs.length + 1 < scanBound) (val : ∀ i v, Pv i v → ∃ z t, xs[i]? = some z ∧ v = .str z t) :
    ∀ (left i : Nat) (s : Shared), n - i = left → i ≤ n → St i s → (∃ m, TSet P w s.heap S m ∧ ∀ z, z ∈ m ↔ z ∈ xs.take i) →
      (∀ s' m, Moved (S :: wr) Gg s s' → TSet P w s'.heap S m → (∀ z, z ∈ m ↔ z ∈ xs) → R (.ok (.ret .none)) s') →
      codeAny (model P w) A (.builtin "set.update.loop" ⟨[.ref S, .ref I], []⟩) R s := by
  have outw : S ∉ wr := fun z => out (Wk.sub _ z)
  have more : ∀ b ∈ wr, b ∈ S :: wr := fun b z => List.mem_cons_of_mem _ z
  intro left
  induction left with
  | zero =>
    intro i s hl hi hst ⟨m, hm, mem⟩ done
    have e : i = n := by omega
    subst e
    refine codeAny_builtin F.entry_set_update_loop ?_
    rw [Around.under_plainId F.plain_set_update_loop _]
    refine wpAny_bind (m := pyNext (.ref I)) (Wk.done s _ _ hst fun s' mv => wpAny_pure (done s' m (mv.mono more) (hm.keep fun o z => mv.heap S o outw z) fun z => ?_))
    rw [mem z, List.take_of_length_le (by omega)]
  | succ left ih =>
    intro i s hl hi hst ⟨m, hm, mem⟩ done
    have lt : i < n := by omega
    refine codeAny_builtin F.entry_set_update_loop ?_
    rw [Around.under_plainId F.plain_set_update_loop _]
    refine wpAny_bind (m := pyNext (.ref I)) (Wk.item i s _ _ lt hst fun v s' hP hst' mv => ?_)
    obtain ⟨z, t, hz, rfl⟩ := val i v hP
    have hm' : TSet P w s'.heap S m := hm.keep fun o y => mv.heap S o outw y
    have len : m.length ≤ i := by
      obtain ⟨_, _, _, nd⟩ := hm
      refine Nat.le_trans (nd.length_le_of_subset fun y hy => (mem y).mp hy) ?_
      rw [List.length_take]
      omega
    show wpAny _ A.in1 (holding [Value.str z t] (setAdd S (.str z t)) >>= _) _ _ s'
    refine wpAny_bind (wpAny_holding ?_)
    unfold setAdd
    refine wpAny_holding (wpAny_bind ((strKind P w).pyHash (k := z) (Froz.is_str z t) ?_))
    refine tset_add (s := { s' with toks := s'.toks + 1 }) hm' (by omega) fun hp b same new => ?_
    have mem' : ∀ y, y ∈ (if z ∈ m then m else z :: m) ↔ y ∈ xs.take (i + 1) := fun y => by
      have et : xs.take (i + 1) = xs.take i ++ [z] := take_snoc hz
      rw [et, List.mem_append, List.mem_singleton, ← mem y]
      by_cases hzm : z ∈ m
      · rw [if_pos hzm]
        exact ⟨.inl, fun q => q.elim id fun e => e ▸ hzm⟩
      · rw [if_neg hzm, List.mem_cons]
        exact Or.comm
    refine wpAny_pure ⟨plainId_quiet F.plain_set_update_loop _, ih (i + 1) _ (by omega) lt (Wk.frame _ s' _ _ hst' (Nat.le_succ _) fun c hc o y => same c o (fun q => out (q ▸ hc)) y) ⟨_, new, mem'⟩ fun s2 m2 mv2 hm2 mem2 => ?_⟩
    exact done s2 m2 (Moved.trans Wk.gtrans ((mv.mono more).then_heap (Nat.le_succ _) fun c o hc y => same c o (fun q => hc (q ▸ List.mem_cons_self)) y) mv2) hm2 mem2
abbrev freshSet (w : World) : Obj := { cls := .type "set", dict := none, data := .set #[] 0 (.fresh 0 0 (!w.params.followText "set-order")) }
theorem freshSet_t (w : World) {hp : Heap} {a : Addr} (e : hp.get? a = some (freshSet w)) : TSet P w hp a [] := by
  refine ⟨(#[], 0, .fresh 0 0 (!w.params.followText "set-order")), e, TxR.fresh ?_, List.nodup_nil⟩
  cases w.params.followText "set-order"
  · exact .inr rfl
  · exact .inl rfl
set_option maxHeartbeats 6400000 in
theorem call_set_texts {l : Addr} {its : Array Value} (xs : List Str) {Q : Value → Shared → Prop} (calm : A.handled = none) (isl : s.heap.IsList l its) (are : StrsAre its.toList xs) (room : xs.length + 1 < scanBound)
    (fin : ∀ (hp : Heap) (tk : Nat) (m : List Str), TSet P w hp s.heap.objs.size m → (∀ z, z ∈ m ↔ z ∈ xs) → (∀ b o, s.heap.get? b = some o → hp.get? b = some o) → Q (.ref s.heap.objs.size) { s with heap := hp, toks := tk }) :
    wpAny (model P w) A (call (.type "set") [.ref l]) Q E s := by
  have len : its.size = xs.length := by
    have q := are.length
    rwa [Array.length_toList] at q
  obtain ⟨cc, ctl, hmr⟩ := F.called_set.mro
  have hmd := F.called_set.made
  have hsb := F.called_set.sub
  refine wpAny_call (codeAny_of_tree ?_)
  show wpAny _ _ (callAny (.type "set") ⟨[.ref l], []⟩) _ _ _
  refine wpAny_pure ⟨Code.quiet_builtin _ (by decide +kernel), codeAny_builtin F.entry_type_call ?_⟩
  rw [Around.under_plain (weight_type_call_type "set" [.ref l] []) rfl]
  have c1 := F.called_set.notType
  have c2 := F.called_set.canCreate
  have c3 := F.typeCall_set_1 (.ref l)
  repeat (any_goals (first | assumption | wp_step))
  refine codeAny_mono (code_set_led1 (.ref l) (E := E) (Q₁ := fun ob s1 => ob = .ref s.heap.objs.size ∧ s1 = { s with heap := s.heap.push (freshSet w) }) ⟨rfl, rfl⟩) fun r s1 hr => ?_
  cases r with
  | error er => exact hr
  | ok fl =>
    cases fl with
    | ret ob =>
      obtain ⟨rfl, rfl⟩ := hr
      have laid : (s.heap.push (freshSet w)).get? s.heap.objs.size = some (freshSet w) := Heap.get?_push_size _ rfl
      have typed : Shared.TypeIs { s with heap := s.heap.push (freshSet w) } (.ref s.heap.objs.size) "set" := ⟨_, laid, rfl⟩
      have li := F.called_set.init.lookup
      have bi := F.called_set.init.bind (.ref s.heap.objs.size)
      repeat (any_goals (first | assumption | wp_step))
      refine codeAny_mono (codeAny_call_builtin (R := wants (fun r s2 => r = .none ∧ ∃ hp tk m, s2 = { s with heap := hp, toks := tk } ∧ TSet P w hp s.heap.objs.size m ∧ (∀ z, z ∈ m ↔ z ∈ xs) ∧ ∀ b o, s.heap.get? b = some o → hp.get? b = some o) E) F.called_set.init.plain F.entry_set_init (check_set_init_1 typed ?_)) fun r2 s2 hr2 => ?_
      · obtain ⟨⟨k1, k2, k3, k4⟩, hol, hcl, nl, hdl⟩ := isl
        simp only at hcl hdl
        subst hcl
        subst hdl
        have hol1 : (s.heap.push (freshSet w)).get? l = some { cls := .type "list", dict := k2, data := .seq its nl, slots := k4 } := Heap.get?_push_of_some _ hol
        have d1 := F.sub_list_set
        have d2 := F.sub_list_frozenset
        have d3 : (Value.type "list" == Value.type "dict") = false := by decide
        have isl1 : (s.heap.push (freshSet w)).IsList l its := ⟨_, hol1, rfl, nl, rfl⟩
        unfold Builtin.«set.__init__» noKeywords Builtin.Frozenset.updateFrom
        generalize hPy : pyIter = Py
        wp_walk
        subst hPy
        refine wpAny_pyIter_list isl1 (wpAny_bind (wpAny_runValue ?_))
        have below : l < s.heap.objs.size := Heap.lt_size hol
        have size1 : (s.heap.push (freshSet w)).objs.size = s.heap.objs.size + 1 := Heap.size_push ..
        have apart : l ≠ (s.heap.push (freshSet w)).objs.size := by rw [size1]; exact nat_a below
        have off : s.heap.objs.size ∉ [(s.heap.push (freshSet w)).objs.size, l] := by
          rw [size1]
          simp only [List.mem_cons, List.not_mem_nil, or_false, not_or]
          exact nat_b below
        have vals : ∀ (i : Nat) (v : Value), its[i]? = some v → ∃ z t, xs[i]? = some z ∧ v = .str z t := fun i v hv => by
          have hi : i < xs.length := by rw [← len]; exact (Array.getElem?_eq_some_iff.mp hv).1
          obtain ⟨t, e⟩ := SS.strs_at are i v (by rw [Array.getElem?_toList]; exact hv)
          refine ⟨xs[i], t, List.getElem?_eq_getElem hi, ?_⟩
          rw [e, List.getD_eq_getElem?_getD, List.getElem?_eq_getElem hi]
          rfl
        have calm3 : A.in1.in1.in1.handled = none := by simp [calm]
        refine tset_loop ((Walks.list calm3 _ l apart its).toS) off xs len room vals (its.size - 0) 0 _ (by omega) (Nat.zero_le _) ⟨⟨_, Heap.get?_push_size _ rfl, rfl, rfl⟩, (isl1.push _)⟩ ⟨[], freshSet_t w (Heap.get?_push_of_some _ laid), fun z => by simp⟩ fun s3 m mv hm mem => ?_
        obtain ⟨hp, g3, d3', tk, os3⟩ := s3
        have e1 : g3 = s.gens := mv.gens
        have e2 : d3' = s.drawn := mv.drawn
        have e3 : os3 = s.os := mv.os
        subst e1
        subst e2
        subst e3
        refine wpAny_pure ?_
        show wpAny _ _ (ret Value.none) _ _ _
        refine wpAny_pure ⟨rfl, hp, tk, m, rfl, hm, mem, fun b o ho => ?_⟩
        have hb : b < s.heap.objs.size := Heap.lt_size ho
        refine mv.heap b o ?_ (Heap.get?_push_of_some _ (Heap.get?_push_of_some _ ho))
        rw [size1]
        simp only [List.mem_cons, List.not_mem_nil, or_false, not_or]
        exact nat_c hb
      · cases r2 with
        | error er => exact hr2
        | ok fl2 =>
          cases fl2 with
          | ret r =>
            obtain ⟨rfl, hp, tk, m, rfl, hm, mem, same⟩ := hr2
            repeat (any_goals (first | assumption | wp_step))
            exact fin _ _ _ hm mem same
          | _ => exact hr2.elim
    | _ => exact hr.elim
end
end Fw
namespace Fw
open PySem PySem.Spec PyProof.Rows L2
open PySem.W
section
variable {P : Program} {w : World} {A : Around} {E : Value → Shared → Prop} {s : Shared}
/-- list.sort of no item or one -/
theorem list_sort_few {a : Addr} {vs : List Value} {n : Nat} {P' : PySem.Fin → Shared → Prop} (here : s.heap.get? a = some (seqObj "list" vs.toArray n)) (few : vs.length < 2) (h : P' (.done (.ret .none)) { s with heap := sortedHeap s.heap a vs vs.toArray }) : wpAny (model P w) A (Builtin.«list.sort» ⟨[.ref a], []⟩) P' E s := by
  have lt : a < s.heap.objs.size := Heap.lt_size here
  have siz : vs.toArray.size = vs.length := List.size_toArray
  rw [list_sort_plain]
  refine wpAny_bind (listItems_at here rfl (wpAny_bind (listUpdate_at here rfl ?_ (by rw [siz, sizeLine_eq]; omega) (Nat.zero_le _))))
  obtain ⟨c1, e1⟩ : ∃ c, (s.heap.update a (Obj.mapSeq fun _ => #[])).get? a = some (seqObj "list" #[] c) := ⟨_, get?_update_seq here (fun _ => #[])⟩
  refine wpAny_bind (seqEpoch_at e1 rfl (wpAny_bind (wpAny_newTuple (wpAny_bind (wpAny_newList (wpAny_holding ?_) (Nat.zero_le _))) (by show vs.length ≤ _; rw [sizeLine_eq]; omega))))
  have e6 : (((s.heap.update a (Obj.mapSeq fun _ => #[])).push (seqObj "tuple" vs.toArray 0)).push (seqObj "list" #[] 0)).get? a = some (seqObj "list" #[] c1) := Heap.get?_push_of_some _ (Heap.get?_push_of_some _ e1)
  have lt2 : vs.toArray.size < 2 := by rw [siz]; exact few
  dsimp only
  rw [if_pos lt2, if_pos lt2]
  refine wpAny_bind (wpAny_pure ?_)
  rw [StateT.run_pure]
  refine wpAny_bind (wpAny_pure ?_)
  have out : (arrOf (SortSt.mk' general' (vs.toArray.zip vs.toArray) #[] 7 none)).map (·.2) = vs.toArray := by
    show (vs.toArray.zip vs.toArray).map (·.2) = vs.toArray
    match vs, few with
    | [], _ => simp
    | [_], _ => simp
  dsimp only
  refine wpAny_bind (seqEpoch_at e6 rfl ?_)
  rw [out]
  refine wpAny_bind (listUpdate_at e6 rfl ?_ (Nat.zero_le _) (by rw [siz, sizeLine_eq]; omega))
  simp only [bne_self_eq_false, Bool.false_eq_true, if_false]
  exact wpAny_pure h
/-- sorted(v), v a thing that gathers into vs -/
theorem sorted_any {v : Value} {Q : Value → Shared → Prop} (Ok : Shared → List Value → Prop) (col : ∀ (P' : List Value → Shared → Prop) (E' : Value → Shared → Prop), (∀ s1 vs, Ok s1 vs → P' vs s1) → wpAny (model P w) A.in1 (collect v) P' E' s)
    (fin : ∀ s1 vs, Ok s1 vs → ∃ bs : List (V × PyData), EachIs (fun u (b : V × PyData) => RelV b.1 u) vs bs ∧ (2 ≤ bs.length → ∃ _ : EachIs (fun u (b : V × PyData) => ∃ as, Reads s1.heap u b.2 as) vs bs, AllAlike (bs.map (·.2)) ∧ Sortable (bs.map (·.2))) ∧ bs.length ≤ sizeLine ∧ (∀ b ∈ bs, A.units + 2 + b.2.depth < cLine) ∧
      ∀ (hp : Heap) (out : List Value) (c : Nat), EachIs (fun u (b : V × PyData) => RelV b.1 u) out (bs.mergeSort (dataLe false (·.2))) → hp.get? s1.heap.objs.size = some (seqObj "list" out.toArray c) → (∀ b o, s1.heap.get? b = some o → hp.get? b = some o) → Q (.ref s1.heap.objs.size) { s1 with heap := hp }) :
    wpAny (model P w) A (call (.builtin "sorted") [v]) Q E s := by
  refine Calls.call_function_entry kind_sorted plain_sorted entry_sorted (args_sorted1 _) ?_
  unfold Builtin.«sorted»
  refine wpAny_bind (m := checkCount "sorted" 1 1 _) (wpAny_pure (wpAny_bind (col _ _ fun s1 vs ok => ?_)))
  obtain ⟨bs, e, big, hz, room, fin⟩ := fin s1 vs ok
  have hvl : vs.length = bs.length := e.length
  refine wpAny_bind (wpAny_newList ?_ (by rw [hvl]; exact hz))
  have here : (s1.heap.push (seqObj "list" vs.toArray 0)).get? s1.heap.objs.size = some (seqObj "list" vs.toArray 0) := Heap.get?_push_size _ rfl
  have oldS : ∀ b o, s1.heap.get? b = some o → (sortingHeap (s1.heap.push (seqObj "list" vs.toArray 0)) s1.heap.objs.size vs).get? b = some o := fun b o ho => sortingHeap_old (Nat.ne_of_lt (Heap.lt_size ho)) (Heap.get?_push_of_some _ ho)
  have oldF : ∀ (out : Array Value) b o, s1.heap.get? b = some o → (sortedHeap (s1.heap.push (seqObj "list" vs.toArray 0)) s1.heap.objs.size vs out).get? b = some o := fun out b o ho => by
    have lt := Heap.lt_size ho
    rw [sortedHeap_old (Nat.ne_of_lt lt) (by rw [size_push']; exact Nat.lt_succ_of_lt lt)]
    exact Heap.get?_push_of_some _ ho
  by_cases h2 : 2 ≤ bs.length
  · obtain ⟨er, al, so⟩ := big h2
    have er' : EachIs (fun u (b : V × PyData) => ∃ as, Reads (sortingHeap (s1.heap.push (seqObj "list" vs.toArray 0)) s1.heap.objs.size vs) u b.2 as) vs bs := er.mono fun _ _ ⟨as, r⟩ => ⟨as, PyProof.Rows.Reads.keeps oldS r⟩
    have S := SortsAt.data (prog := P) (w := w) (A := A.in1.in1) (s := { s1 with heap := sortingHeap (s1.heap.push (seqObj "list" vs.toArray 0)) s1.heap.objs.size vs }) (each_map (R := fun u d => ∃ as, Reads (sortingHeap (s1.heap.push (seqObj "list" vs.toArray 0)) s1.heap.objs.size vs) u d as) (fun b : V × PyData => b.2) er') al so (bound_map room)
    obtain ⟨c, hc⟩ := sortedHeap_at (vs := vs) (out := (sortVals (dataKind (sortingHeap (s1.heap.push (seqObj "list" vs.toArray 0)) s1.heap.objs.size vs) (bs.map (·.2))) false vs vs).toArray) here
    refine wpAny_bind (wpAny_holding (wpAny_call_entry slot_list_sort ⟨_, here, rfl⟩ entry_list_sort (list_sort_vals here S (by rw [hvl]; exact hz) ⟨_, rfl, ?_⟩) (args_list_sort _)))
    exact wpAny_pure ⟨_, rfl, fin _ _ c (sortVals_data false e er' al) hc (oldF _)⟩
  · obtain ⟨c, hc⟩ := sortedHeap_at (vs := vs) (out := vs.toArray) here
    refine wpAny_bind (wpAny_holding (wpAny_call_entry slot_list_sort ⟨_, here, rfl⟩ entry_list_sort (list_sort_few here (by rw [hvl]; omega) ⟨_, rfl, ?_⟩) (args_list_sort _)))
    have same : bs.mergeSort (dataLe false (·.2)) = bs := by
      match bs, h2 with
      | [], _ => rw [List.mergeSort_nil]
      | [_], _ => rw [List.mergeSort_singleton]
      | _ :: _ :: _, h => exact absurd (by simp) h
    exact wpAny_pure ⟨_, rfl, fin _ vs c (by rw [same]; exact e) hc (oldF _)⟩
end
end Fw
namespace Fw
open PySem PySem.Spec PyProof.Rows L2
open PySem.W
section
variable {P : Program} {w : World} {A : Around} {E : Value → Shared → Prop} {s : Shared}
theorem nat_ne {a b : Nat} (h : a < b) : b ≠ a := by omega
/-- a tuple's items, gathered -/
theorem collect_tup {l : Addr} {vs : List Value} {Q : List Value → Shared → Prop} (isT : s.heap.IsTuple l vs.toArray) (few : vs.length ≤ sizeLine)
    (h : ∀ hp : Heap, (∀ b o, s.heap.get? b = some o → hp.get? b = some o) → s.heap.objs.size ≤ hp.objs.size → Q vs { s with heap := hp }) : wpAny (model P w) A (collect (.ref l)) Q E s := by
  obtain ⟨ob, hob, hcl, n, hdt⟩ := id isT
  unfold collect
  refine wpAny_bind (wpAny_runValue (codeAny_builtin entry_proto_collect' ?_))
  show wpAny _ _ (newList [] >>= fun q => again (.builtin "list.__iadd__" ⟨[q, .ref l], []⟩)) _ _ s
  refine wpAny_bind (wpAny_newList (wpAny_pure ⟨Code.quiet_builtin _ (by decide +kernel), codeAny_builtin entry_list_iadd' ?_⟩))
  show wpAny _ _ (Builtin.List.listExtendWith (.ref s.heap.objs.size) (.ref l) (.ref s.heap.objs.size)) _ _ { s with heap := s.heap.push (seqObj "list" #[] 0) }
  unfold Builtin.List.listExtendWith
  have hob1 : (s.heap.push (seqObj "list" #[] 0)).get? l = some ob := Heap.get?_push_of_some _ hob
  refine wpAny_bind (wpAny_typeOf (T := "tuple") ⟨ob, hob1, hcl⟩ ?_)
  have isb : (Value.type "tuple" == Value.type "tuple") = true := by rfl
  rw [if_pos (by rw [isb]; simp)]
  have new0 : (s.heap.push (seqObj "list" #[] 0)).get? s.heap.objs.size = some (seqObj "list" #[] 0) := Heap.get?_push_size _ rfl
  refine wpAny_bind (listItems_at hob1 hdt (wpAny_bind (listItems_at (xs := #[]) (n := 0) new0 rfl ?_)))
  rw [if_neg (by simp)]
  refine wpAny_bind (listUpdate_at (xs := #[]) (n := 0) new0 rfl ?_ (Nat.zero_le _) (by rw [Array.size_append, List.size_toArray]; show 0 + vs.length ≤ _; omega))
  refine wpAny_pure ?_
  refine wpAny_bind (m := load s.heap.objs.size) (wpAny_load (get?_update_seq new0 _) ?_)
  have app : ((#[] : Array Value) ++ vs.toArray).toList = vs := by simp
  show wpAny _ _ (pure ((#[] : Array Value) ++ vs.toArray).toList) Q E _
  rw [app]
  refine wpAny_pure (h _ (fun b o ho => ?_) ?_)
  · rw [Heap.get?_update_ne _ _ _ _ (Nat.ne_of_lt (Heap.lt_size ho))]
    exact Heap.get?_push_of_some _ ho
  · rw [Heap.size_update, size_push']
    exact Nat.le_succ _
/-- sorted(v), v a thing that gathers into texts -/
theorem sorted_texts {v : Value} {Q : Value → Shared → Prop} (Ok : Shared → List Value → Prop) (col : ∀ (P' : List Value → Shared → Prop) (E' : Value → Shared → Prop), (∀ s1 vs, Ok s1 vs → P' vs s1) → wpAny (model P w) A.in1 (collect v) P' E' s) (hu : A.units + 64 < cLine)
    (fin : ∀ s1 vs, Ok s1 vs → ∃ zs, StrsAre vs zs ∧ zs.length ≤ sizeLine ∧ ∀ (hp : Heap) (out : List Value) (c : Nat), Vals ((sortS zs).map V.str) out → hp.get? s1.heap.objs.size = some (seqObj "list" out.toArray c) → (∀ b o, s1.heap.get? b = some o → hp.get? b = some o) → Q (.ref s1.heap.objs.size) { s1 with heap := hp }) :
    wpAny (model P w) A (call (.builtin "sorted") [v]) Q E s := by
  refine sorted_any Ok col fun s1 vs ok => ?_
  obtain ⟨zs, are, hz, fin⟩ := fin s1 vs ok
  have each : ∀ {us : List Value} {ys : List Str}, StrsAre us ys → EachIs (fun u (b : V × PyData) => RelV b.1 u) us (ys.map fun z => (V.str z, PyData.str z)) ∧ EachIs (fun u (b : V × PyData) => ∃ as, Reads s1.heap u b.2 as) us (ys.map fun z => (V.str z, PyData.str z)) := fun {us ys} h => by
    induction h with
    | nil => exact ⟨.nil, .nil⟩
    | cons y t _ ih => exact ⟨.cons ⟨t, rfl⟩ ih.1, .cons ⟨[], .str y t⟩ ih.2⟩
  have pick : (zs.map fun z => (V.str z, PyData.str z)).map (·.2) = zs.map PyData.str := by rw [List.map_map]; rfl
  refine ⟨zs.map fun z => (V.str z, PyData.str z), (each are).1, fun _ => ⟨(each are).2, ?_, ?_⟩, by rw [List.length_map]; exact hz, fun b hb => ?_, fun hp out c ho hg hk => fin hp out c ?_ hg hk⟩
  · rw [pick]
    exact AllAlike.of fun _ _ => rfl
  · rw [pick]
    exact Sortable.others fun b => ⟨fun z => PyData.noConfusion z, fun xs z => PyData.noConfusion z⟩
  · obtain ⟨z, _, rfl⟩ := List.mem_map.mp hb
    have : (PyData.str z).depth ≤ 1 := by simp [PyData.depth]
    show A.units + 2 + (PyData.str z).depth < cLine
    omega
  · have e : (zs.map fun z => (V.str z, PyData.str z)).mergeSort (dataLe false (·.2)) = (sortS zs).map fun z => (V.str z, PyData.str z) := by
      unfold sortS
      rw [List.map_mergeSort (s := dataLe false (fun q : V × PyData => q.2))]
      intro a _ b _
      exact (leD_str a b).symm
    rw [e] at ho
    have := vals_each ho
    rw [List.map_map] at this
    exact this
end
section
variable {X : Cx} {pins : List (Addr × Obj)} {σ : L2.St} {H : Hp} {s : Shared}
/-- a new list stands behind a call that made other things too -/
theorem inv_list (I : Inv X pins σ H s) {s1 : Shared} {hp : Heap} {xs : List V} {out : List Value} {c : Nat} (old1 : ∀ b o, s.heap.get? b = some o → s1.heap.get? b = some o) (le : s.heap.objs.size ≤ s1.heap.objs.size) (g1 : s1.gens = s.gens) (o1 : s1.os = s.os) (vals : Vals xs out) (hl : xs.length ≤ sizeLine)
    (here : hp.get? s1.heap.objs.size = some (seqObj "list" out.toArray c)) (old2 : ∀ b o, s1.heap.get? b = some o → hp.get? b = some o) : Inv X pins σ (upd H s1.heap.objs.size (.lst xs)) { s1 with heap := hp } ∧ H s1.heap.objs.size = none :=
  have hn : H s1.heap.objs.size = none := I.hok.fresh le
  have kept : ∀ b o, s.heap.get? b = some o → hp.get? b = some o := fun b o ho => old2 b o (old1 b o ho)
  ⟨I.call' (ch := []) o1 (Un.laid kept le hn) (I.hok.laid kept le ⟨hl, out, c, vals, here⟩) (by show AllBare s1.gens; rw [g1]; exact I.bare) (fun _ z => nomatch z), hn⟩
/-- sorted(t), t a tuple of texts -/
def rSortTS (K : PySem.W.Frag) : List V → Hp → VK → Prop := fun vs H Q => ∃ (a : Addr) (zs : List Str), vs = [V.ref a] ∧ SqT K H a (zs.map V.str) ∧ zs.length ≤ 100000 ∧ ∀ p, H p = none → Q (.ref p) (upd H p (.lst ((sortS zs).map V.str)))
theorem cr_sortTS (hu : X.A.units + 64 < cLine) : CallR X (.builtin "sorted") (rSortTS X.K) := by
  intro pins s σ H vs us Q I r h
  obtain ⟨a, zs, rfl, ht, hz, q⟩ := h
  obtain ⟨its, rv, tup, big⟩ := I.tuple ht
  rw [Vals.ref1 r]
  have len : its.length = zs.length := by rw [← rv.length, List.length_map]
  refine sorted_texts (fun s1 ws => ws = its ∧ ∃ hp : Heap, s1 = { s with heap := hp } ∧ (∀ b o, s.heap.get? b = some o → hp.get? b = some o) ∧ s.heap.objs.size ≤ hp.objs.size) (fun P' E' k => ?_) hu fun s1 ws ok => ?_
  · exact collect_tup tup (by rw [len]; exact Nat.le_trans hz (by decide)) fun hp k1 k2 => k _ _ ⟨rfl, hp, rfl, k1, k2⟩
  · obtain ⟨rfl, hp, rfl, k1, k2⟩ := ok
    refine ⟨zs, strsAre_of rv, Nat.le_trans hz (by decide), fun hp2 out c vals here keep => ?_⟩
    obtain ⟨J, hn⟩ := inv_list I (s1 := { s with heap := hp }) k1 k2 rfl rfl vals (by rw [List.length_map, (sortS_perm _).length_eq]; exact Nat.le_trans hz (by decide)) here keep
    exact ⟨.ref _, _, J, rfl, q _ hn⟩
/-- set(l), l a list of texts; then len, sorted -/
def TSetO (P : Program) (w : World) (a : Addr) (m : List Str) : HO := .ext fun hp => TSet P w hp a m
def rSetTx (P : Program) (w : World) (K : PySem.W.Frag) : List V → Hp → VK → Prop := fun vs H Q => ∃ (a : Addr) (zs : List Str), vs = [V.ref a] ∧ SqL K H a (zs.map V.str) ∧ zs.length ≤ 2000 ∧ ∀ p m, H p = none → m.Nodup → (∀ z, z ∈ m ↔ z ∈ zs) → Q (.ref p) (upd H p (TSetO P w p m))
theorem cr_setTx (calm : X.calm = true) : CallR X (.type "set") (rSetTx X.prog X.w X.K) := by
  intro pins s σ H vs us Q I r h
  obtain ⟨a, zs, rfl, hl, hz, q⟩ := h
  obtain ⟨its, rv, lst, big⟩ := I.list hl
  rw [Vals.ref1 r]
  refine call_set_texts zs (I.ok.hd calm) lst.isList (by simpa using strsAre_of rv) (by unfold scanBound; omega) fun hp tk m hm mem keep => ?_
  have nd : m.Nodup := by
    obtain ⟨_, _, _, nd⟩ := hm
    exact nd
  have ob : ∃ o, hp.get? s.heap.objs.size = some o := by
    obtain ⟨_, e, _⟩ := hm
    exact ⟨_, e⟩
  exact ⟨.ref _, upd H s.heap.objs.size (TSetO X.prog X.w s.heap.objs.size m), I.laid (t' := tk) keep (Nat.le_refl _) ⟨hm, ob, fun h1 h2 t k => TSet.keep t k⟩, rfl, q _ m (I.hok.fresh (Nat.le_refl _)) nd mem⟩
def rLenTx (P : Program) (w : World) : List V → Hp → VK → Prop := fun vs H Q => ∃ (a : Addr) (m : List Str), vs = [V.ref a] ∧ H a = some (TSetO P w a m) ∧ m.length ≤ 2000 ∧ Q (.int m.length) H
theorem cr_lenTx : CallR X (.builtin "len") (rLenTx X.prog X.w) := by
  intro pins s σ H vs us Q I r h
  obtain ⟨a, m, rfl, ha, hz, q⟩ := h
  rw [Vals.ref1 r]
  obtain ⟨D, here, F, _⟩ : TSet X.prog X.w s.heap a m := (I.hok a _ ha).1
  have sz : D.1.size = m.length := F.sz
  refine call_len_set (es := D.1) (ep := D.2.1) (t := D.2.2) here ⟨rfl, rfl, rfl⟩ rfl F.fit (by rw [sz]; omega) ⟨.int m.length, H, I.tok _, ⟨_, by rw [sz]⟩, q⟩
def rSortTx (P : Program) (w : World) : List V → Hp → VK → Prop := fun vs H Q => ∃ (a : Addr) (m : List Str), vs = [V.ref a] ∧ H a = some (TSetO P w a m) ∧ m.length ≤ 2000 ∧ ∀ p, H p = none → Q (.ref p) (upd H p (.lst ((sortS m).map V.str)))
end
end Fw
namespace Fw
open PySem PySem.Spec PyProof.Rows L2
theorem perm_of_len : ∀ (m l : List Str), m.Nodup → (∀ z ∈ m, z ∈ l) → l.length ≤ m.length → l.Perm m
  | [], l, _, _, h => by rw [List.length_eq_zero_iff.mp (Nat.le_zero.mp h)]
  | a :: m, l, nd, sub, h => by
    obtain ⟨n1, n2⟩ := List.nodup_cons.mp nd
    have ha := sub a List.mem_cons_self
    have p := List.perm_cons_erase ha
    refine p.trans (List.Perm.cons a (perm_of_len m (l.erase a) n2 (fun z hz => ?_) ?_))
    · have : z ≠ a := fun e => n1 (e ▸ hz)
      exact (List.mem_erase_of_ne this).mpr (sub z (List.mem_cons_of_mem _ hz))
    · rw [List.length_erase_of_mem ha]
      rw [List.length_cons] at h
      omega
theorem sortS_perm_eq {l m : List Str} (p : l.Perm m) : sortS l = sortS m := sorted_uniq ((sortS_perm l).trans (p.trans (sortS_perm m).symm)) (sortS_sorted l) (sortS_sorted m)
def strOf : Value → Str
  | .str z _ => z
  | _ => Str.empty
theorem is_str_val {P : Program} {w : World} {k : Str} {v : Value} (h : (strKind P w).is k v = true) : ∃ t, v = .str k t := by
  have h : Value.isStrOf k v = true := h
  cases v with
  | str z t =>
    have e : z = k := by simpa [Value.isStrOf] using h
    exact ⟨t, by rw [e]⟩
  | _ => simp [Value.isStrOf] at h
theorem strs_are : ∀ {vs : List Value}, (∀ v ∈ vs, ∃ z t, v = .str z t) → StrsAre vs (vs.map strOf)
  | [], _ => .nil
  | v :: vs, h => by
    obtain ⟨z, t, rfl⟩ := h v List.mem_cons_self
    exact .cons z t (strs_are fun u hu => h u (List.mem_cons_of_mem _ hu))
section
variable {X : Cx}
theorem cr_sortTx (calm : X.calm = true) (hu : X.A.units + 64 < cLine) : CallR X (.builtin "sorted") (rSortTx X.prog X.w) := by
  intro pins s σ H vs us Q I r h
  obtain ⟨a, m, rfl, ha, hz, q⟩ := h
  rw [Vals.ref1 r]
  obtain ⟨D, here, F, nd⟩ : TSet X.prog X.w s.heap a m := (I.hok a _ ha).1
  have sz : D.1.size = m.length := F.sz
  refine sorted_texts (fun s1 ws => (∀ b o, s.heap.get? b = some o → s1.heap.get? b = some o) ∧ s.heap.objs.size ≤ s1.heap.objs.size ∧ s1.gens = s.gens ∧ s1.os = s.os ∧ ws.Perm (D.1.toList.map (·.2))) (fun P' E' k => ?_) hu fun s1 ws ok => ?_
  · exact collect_set (A := X.A.in1) (I.ok.hd calm) ⟨_, here, rfl, rfl⟩ F.fit (by rw [sz]; unfold scanBound; omega) F.ris F.led fun s' out k1 k2 g o p => k _ _ ⟨k1, k2, g, o, p⟩
  · obtain ⟨k1, k2, g, o, p⟩ := ok
    have isS : ∀ v ∈ ws, ∃ z t, v = .str z t := fun v hv => by
      obtain ⟨e, he, rfl⟩ := List.mem_map.mp (p.mem_iff.mp hv)
      obtain ⟨⟨z, hz, _⟩, _⟩ := F.el e he
      obtain ⟨t, e2⟩ := is_str_val hz
      exact ⟨z, t, e2⟩
    have len : (ws.map strOf).length = m.length := by rw [List.length_map, p.length_eq, List.length_map, Array.length_toList, sz]
    have pm : (ws.map strOf).Perm m := perm_of_len m _ nd (fun z hz => by
      obtain ⟨e, he, hi⟩ := (F.mem z).mp hz
      obtain ⟨t, e2⟩ := is_str_val hi
      refine List.mem_map.mpr ⟨e.2, p.mem_iff.mpr (List.mem_map_of_mem he), ?_⟩
      rw [e2]
      rfl) (Nat.le_of_eq len)
    refine ⟨ws.map strOf, strs_are isS, by rw [len]; exact Nat.le_trans hz (by decide), fun hp2 out c vals here2 keep => ?_⟩
    rw [sortS_perm_eq pm] at vals
    obtain ⟨J, hn⟩ := inv_list I k1 k2 g o vals (by rw [List.length_map, (sortS_perm _).length_eq]; exact Nat.le_trans hz (by decide)) here2 keep
    exact ⟨.ref _, _, J, rfl, q _ hn⟩
variable {ss : List Slot} {e : Expr} {pos p p2 q : Pos}
/-- sorted(t) of a tuple of texts -/
theorem eo_sortTS {xs : List Str} (hm : X.mg "sorted" = none) (hu : X.A.units + 64 < cLine) (ha : EE X ss e (.tup (xs.map .str))) (hl : xs.length ≤ 1000) (hg : Gl X "sorted" := by rfl) (he : starEach [e] X.env = (false, eval e X.env) :: starEach [] X.env := by rfl) (hpl : (backTo pos (starEach [] X.env)).any (·.1) = false := by rfl) : EO X ss (.Call (.Name "sorted" p) [e] [] pos) ((sortS xs).map .str) :=
  eo_B (cr_sortTS hu) hm (by decide +kernel) (ea_cons ha ea_nil he) (fun G H vs i r Q k => by
    cases r with
    | cons r t =>
      cases t
      cases r with
      | tup sq r =>
        have e := r.strs
        subst e
        exact ⟨_, xs, rfl, i.t sq, by omega, fun a hn => GivO.new k i hn (RpA.of_strs _)⟩) hg (by decide) (by decide) he hpl
/-- set(e) inside a call -/
theorem pe_inSet {id : String} {x : Str} {r : List V → Hp → VK → Prop} (hc : CallR X (.builtin id) r) (hm : X.mg x = none) (hm2 : X.mg "set" = none) (hv : bootBuiltins x = some (.builtin id)) (calm : X.calm = true) (hg : Gl X x) (hg2 : Gl X "set") (hn : x ≠ "__name__") (hdb : (x == ("__debug__" : Str)) = false)
    (he : starEach [e] X.env = (false, eval e X.env) :: starEach [] X.env) (he2 : starEach [.Call (.Name "set" p2) [e] [] q] X.env = (false, eval (.Call (.Name "set" p2) [e] [] q) X.env) :: starEach [] X.env) (hpl : (backTo q (starEach [] X.env)).any (·.1) = false) (hpl2 : (backTo pos (starEach [] X.env)).any (·.1) = false) :
    PE X (.Call (.Name x p) [.Call (.Name "set" p2) [e] [] q] [] pos) (tCB r (tCons (tCB (rSetTx X.prog X.w X.K) (tCons (wE X e) tNil)) tNil)) :=
  pe_callB hc hg hm hv (pa_cons (pe_callTy (cr_setTx calm) hg2 hm2 PyProof.Rows.boot_set (pa_cons pe_w pa_nil he) (by decide) (by decide) he hpl) pa_nil he2) hn hdb he2 hpl2
/-- sorted(set(e)) of a list of texts -/
theorem eo_sortSet {xs : List Str} (hm : X.mg "sorted" = none) (hm2 : X.mg "set" = none) (hu : X.A.units + 64 < cLine) (ha : EE X ss e (.lst (xs.map .str))) (hl : xs.length ≤ 1000) (hc : X.calm = true) (hg : Gl X "sorted") (hg2 : Gl X "set")
    (he : starEach [e] X.env = (false, eval e X.env) :: starEach [] X.env) (he2 : starEach [.Call (.Name "set" p2) [e] [] q] X.env = (false, eval (.Call (.Name "set" p2) [e] [] q) X.env) :: starEach [] X.env) (hpl : (backTo q (starEach [] X.env)).any (·.1) = false) (hpl2 : (backTo pos (starEach [] X.env)).any (·.1) = false) {ys : List Str} (hy : ys.Nodup) (hy2 : ∀ z, z ∈ ys ↔ z ∈ xs) :
    EO X ss (.Call (.Name "sorted" p) [.Call (.Name "set" p2) [e] [] q] [] pos) ((sortS ys).map .str) := fun H0 G H σ i s Q k =>
  wE.of (pe_inSet (cr_sortTx hc hu) hm hm2 (by decide +kernel) hc hg hg2 (by decide) (by decide) he he2 hpl hpl2) (ha H0 G H σ i s _ fun v G1 H1 g1 r1 => by
    cases r1 with
    | lst sq r =>
      have e := r.strs
      subst e
      refine ⟨_, xs, rfl, SqL.of (g1.i _ _ sq), by omega, fun a m hn nd mem => ?_⟩
      have g2 := g1.trans (.hid (o := TSetO X.prog X.w a m) g1.i hn)
      have pm : m.Perm ys := (List.perm_ext_iff_of_nodup nd hy).mpr fun z => (mem z).trans (hy2 z).symm
      have ml : m.length ≤ 2000 := by
        have := nd.length_le_of_subset fun z hz => (mem z).mp hz
        omega
      refine ⟨a, m, rfl, upd_same, ml, fun a2 hn2 => ?_⟩
      rw [sortS_perm_eq pm]
      refine k a2 _ G1 _ (g2.h.back hn2) (g2.trans (.hid g2.i hn2)) (g2.i.back hn2) upd_same (RpA.of_strs _))
/-- len(set(e)) of a list of texts -/
theorem ee_lenSet {xs : List Str} (hm : X.mg "len" = none) (hm2 : X.mg "set" = none) (ha : EE X ss e (.lst (xs.map .str))) (nd : xs.Nodup) (hl : xs.length ≤ 1000) (hc : X.calm = true) (hg : Gl X "len") (hg2 : Gl X "set")
    (he : starEach [e] X.env = (false, eval e X.env) :: starEach [] X.env) (he2 : starEach [.Call (.Name "set" p2) [e] [] q] X.env = (false, eval (.Call (.Name "set" p2) [e] [] q) X.env) :: starEach [] X.env) (hpl : (backTo q (starEach [] X.env)).any (·.1) = false) (hpl2 : (backTo pos (starEach [] X.env)).any (·.1) = false) :
    EE X ss (.Call (.Name "len" p) [.Call (.Name "set" p2) [e] [] q] [] pos) (.int xs.length) := fun H0 G H σ i s Q k =>
  wE.of (pe_inSet cr_lenTx hm hm2 PySem.boot_len hc hg hg2 (by decide) (by decide) he he2 hpl hpl2) (ha H0 G H σ i s _ fun v G1 H1 g1 r1 => by
    cases r1 with
    | lst sq r =>
      have e := r.strs
      subst e
      refine ⟨_, xs, rfl, SqL.of (g1.i _ _ sq), by omega, fun a m hn ndm mem => ?_⟩
      have g2 := g1.trans (.hid (o := TSetO X.prog X.w a m) g1.i hn)
      have pm : m.Perm xs := (List.perm_ext_iff_of_nodup ndm nd).mpr mem
      refine ⟨a, m, rfl, upd_same, by rw [pm.length_eq]; omega, ?_⟩
      rw [pm.length_eq]
      exact k _ G1 _ g2 (.int _))
end
end Fw
namespace Fw
open PySem PySem.Spec PyProof.Rows L2
/-! ### sets of tuples of texts: only new ones are added -/
section
variable {P : Program} {w : World} {A : Around} {E : Value → Shared → Prop} {s : Shared}
abbrev LotAt (P : Program) (w : World) (hp : Heap) (z : List Str) (b : Addr) : Prop := IsTupleKey (strKind P w) hp z b
abbrev lotH (P : Program) (w : World) (z : List Str) : Int := tupleKeyHash (strKind P w) z
theorem lot_strs {z : List Str} {us : List Value} (h : ItemsAre (strKind P w) z us) : ∀ u ∈ us, ∃ y k, u = Value.str y k := by
  induction h with
  | nil => exact fun u hu => by cases hu
  | cons h0 _ ih =>
    intro u hu
    rcases List.mem_cons.mp hu with rfl | hu
    · obtain ⟨k, e⟩ := is_str_val h0
      exact ⟨_, k, e⟩
    · exact ih u hu
theorem hbv_str (n : Nat) (y : Str) (k : Tok) : hashByValue n (.str y k) = pure false := by cases n <;> rfl
theorem ofc_str (n : Nat) (y : Str) (k : Tok) : ofAClassStatement n (.str y k) = pure false := by cases n <;> rfl
theorem hbv_lot {z : List Str} {b : Addr} {Q : Bool → Shared → Prop} (lot : LotAt P w s.heap z b) (h : ∀ x, Q x s) : wpAny (model P w) A (hashByValue 8 (.ref b)) Q E s := by
  have ty := lot.typeIs
  obtain ⟨ob, its, ep, hob, _, hdat, are⟩ := lot
  unfold hashByValue
  refine wpAny_bind (m := specialOf (Value.ref b) (Str.ofString "__hash__")) (wpAny_specialOf ty F.slot_tuple_hash.lookup ?_)
  show wpAny _ _ (seqItems? (.ref b) >>= _) _ _ s
  refine wpAny_bind (wpAny_seqItems hob hdat (wpAny_bind ?_))
  show wpAny _ _ (forIn its _ _) _ _ s
  rw [← Array.forIn_toList]
  refine wpAny_forIn_list _ (fun l c s1 => c.1 = none ∧ s1 = s ∧ ∀ u ∈ l, ∃ y k, u = Value.str y k) _ (fun u l c s1 i => ?_) (fun c s1 i => ?_) _ _ ⟨rfl, rfl, lot_strs are⟩
  · obtain ⟨_, rfl, all⟩ := i
    obtain ⟨y, k, rfl⟩ := all u List.mem_cons_self
    rw [hbv_str]
    refine wpAny_bind (wpAny_pure ?_)
    simp only [Bool.not_false, if_true]
    exact wpAny_pure (wpAny_pure (h false))
  · obtain ⟨c1, c2⟩ := c
    obtain ⟨c0, rfl, _⟩ := i
    have c0 : c1 = none := c0
    subst c0
    exact wpAny_pure (h true)
theorem ofc_lot {z : List Str} {b : Addr} {Q : Bool → Shared → Prop} (lot : LotAt P w s.heap z b) (h : Q false s) : wpAny (model P w) A (ofAClassStatement 8 (.ref b)) Q E s := by
  have ty := lot.typeIs
  obtain ⟨ob, its, ep, hob, _, hdat, are⟩ := lot
  unfold ofAClassStatement
  refine wpAny_bind (wpAny_typeOf ty ?_)
  have isT : (("tuple" : String) == "tuple") = true := by rfl
  dsimp only
  rw [if_pos isT]
  refine wpAny_bind (wpAny_pure ?_)
  rw [if_neg (by simp)]
  show wpAny _ _ (seqItems? (.ref b) >>= _) _ _ s
  refine wpAny_bind (wpAny_seqItems hob hdat (wpAny_bind ?_))
  show wpAny _ _ (forIn its _ _) _ _ s
  rw [← Array.forIn_toList]
  refine wpAny_forIn_list _ (fun l c s1 => c.1 = none ∧ s1 = s ∧ ∀ u ∈ l, ∃ y k, u = Value.str y k) _ (fun u l c s1 i => ?_) (fun c s1 i => ?_) _ _ ⟨rfl, rfl, lot_strs are⟩
  · obtain ⟨_, rfl, all⟩ := i
    obtain ⟨y, k, rfl⟩ := all u List.mem_cons_self
    rw [ofc_str]
    refine wpAny_bind (wpAny_pure ?_)
    rw [if_neg Bool.false_ne_true]
    exact wpAny_pure ⟨rfl, rfl, fun u hu => all u (List.mem_cons_of_mem _ hu)⟩
  · obtain ⟨c1, c2⟩ := c
    obtain ⟨c0, rfl, _⟩ := i
    have c0 : c1 = none := c0
    subst c0
    exact wpAny_pure h
end
end Fw
namespace Fw
open PySem PySem.Spec PyProof.Rows L2
/-- the c-th place of the probe for hash g, of a table with mask m -/
abbrev trk (m : Nat) (g : Int) (c : Nat) : SetTable.Probe := nth m (runAt m (SetTable.bits g % (m + 1)) (SetTable.bits g)) c
theorem trk_go (m : Nat) (g : Int) (c q : Nat) : nth m (trk m g c) q = trk m g (c + q) := (nth_add m c _ q).symm
theorem nth_clean (m : Nat) : ∀ (n : Nat) (p : SetTable.Probe), p.dummy = none → (nth m p n).dummy = none
  | 0, _, h => h
  | n + 1, p, h => nth_clean m n (adv m p) (by unfold adv; split <;> exact h)
/-- the set at a has these lots -/
structure LotSet (P : Program) (w : World) (hp : Heap) (a : Addr) (L : List (Addr × List Str)) (D : Froz.SD) : Prop where
  obj : hp.get? a = some (Froz.sObj "set" D)
  ent : D.1.toList = L.map fun p => (lotH P w p.2, Value.ref p.1)
  tab : TabOk D.2.2 (L.map fun p => lotH P w p.2)
  lots : ∀ p ∈ L, LotAt P w hp p.2 p.1
  led : w.params.followText "set-order" = true ∨ D.2.2.led = true
  room : L.length * 5 < D.2.2.mask * 3
  few : L.length ≤ 8
section
variable {P : Program} {w : World} {A : Around} {E : Value → Shared → Prop} {s : Shared} {a : Addr} {L : List (Addr × List Str)} {D : Froz.SD} {hp : Heap}
theorem LotSet.sz (S : LotSet P w hp a L D) : D.1.size = L.length := by
  rw [← Array.length_toList, S.ent, List.length_map]
theorem fits_of {t : SetTable} {gs : List Int} {n : Nat} (T : TabOk t gs) (hn : gs.length = n) (lt : n ≤ t.mask) : t.fits n = true := by
  have h1 : t.place.size = n := T.sz.trans hn
  simp only [SetTable.fits, SetTable.fill, T.dm, Bool.and_eq_true, beq_iff_eq, decide_eq_true_eq]
  refine ⟨h1, ?_⟩
  show t.place.size + 0 ≤ t.mask
  omega
theorem LotSet.fit (S : LotSet P w hp a L D) : D.2.2.fits D.1.size = true := by
  have h1 := S.room
  rw [S.sz]
  exact fits_of S.tab (List.length_map ..) (by omega)
theorem LotSet.at (S : LotSet P w hp a L D) {i : Nat} {p : Addr × List Str} (h : L[i]? = some p) : D.1[i]? = some (lotH P w p.2, Value.ref p.1) := by
  rw [← Array.getElem?_toList, S.ent, List.getElem?_map, h]
  rfl
theorem LotSet.whole (S : LotSet P w hp a L D) : ¬ D.2.2.gaveWay = true := by
  have := mask_odd S.tab.mok
  simp [SetTable.gaveWay, this]
theorem unseen_lot {z : List Str} {b : Addr} {Q : Bool → Shared → Prop} (lot : LotAt P w s.heap z b) {us : List Value} (all : ∀ u ∈ us, ∃ y c, u = Value.ref c ∧ LotAt P w s.heap y c) (h : Q false s) : wpAny (model P w) A (searchCouldBeSeen (.ref b) us) Q E s := by
  unfold searchCouldBeSeen
  refine wpAny_bind (wpAny_forIn_list _ (fun l c s1 => c.1 = none ∧ s1 = s ∧ ∀ u ∈ l, ∃ y c, u = Value.ref c ∧ LotAt P w s.heap y c) _ (fun u l c s1 i => ?_) (fun c s1 i => ?_) _ _ ⟨rfl, rfl, all⟩)
  · obtain ⟨_, rfl, k⟩ := i
    obtain ⟨y, d, rfl, lot2⟩ := k u List.mem_cons_self
    have rest : ∀ u ∈ l, ∃ y c, u = Value.ref c ∧ LotAt P w s1.heap y c := fun u hu => k u (List.mem_cons_of_mem _ hu)
    dsimp only
    by_cases very : (b == d || (carriedByValue (.ref b) && carriedByValue (.ref d))) = true
    · rw [if_pos very]
      exact wpAny_pure ⟨rfl, rfl, rest⟩
    · rw [if_neg very]
      refine wpAny_bind (wpAny_eqIsQuiet_tuple lot ?_)
      rw [if_neg (by simp)]
      refine wpAny_bind (wpAny_eqIsQuiet_tuple lot2 ?_)
      rw [if_neg (by simp)]
      refine wpAny_bind (ofc_lot lot ?_)
      rw [if_neg Bool.false_ne_true]
      refine wpAny_bind (ofc_lot lot2 ?_)
      rw [if_neg Bool.false_ne_true]
      exact wpAny_pure ⟨rfl, rfl, rest⟩
  · obtain ⟨c1, c2⟩ := c
    obtain ⟨c0, rfl, _⟩ := i
    have c0 : c1 = none := c0
    subst c0
    exact wpAny_pure h
/-- the place where a new lot goes -/
theorem seek_lot (S : LotSet P w s.heap a L D) {b : Addr} {z : List Str} (lot : LotAt P w s.heap z b) (new : ∀ p ∈ L, p.2 ≠ z) (room : A.units < cLine) {K : Nat} (lim : K < 10 * SetTable.turns D.2.2.mask)
    (off : way D.2.2.mask (lotH P w z) K ∉ D.2.2.place.toList) (on : ∀ c, c < K → way D.2.2.mask (lotH P w z) c ∈ D.2.2.place.toList) {Q : SetFound → Shared → Prop} (h : Q (.free (way D.2.2.mask (lotH P w z) K) false) s) :
    ∀ (f c : Nat) (stand : Option SetTable.Probe), stand.getD (D.2.2.probeStart (lotH P w z)) = trk D.2.2.mask (lotH P w z) c → c ≤ K → K - c < f → wpAny (model P w) A (setSearchFrom a (.ref b) (lotH P w z) true f stand) Q E s := by
  obtain ⟨es, ep, t⟩ := D
  have ent : es.toList = L.map fun p => (lotH P w p.2, Value.ref p.1) := S.ent
  have hashOf : ∀ (i : Nat) p, L[i]? = some p → (es[i]?.map (·.1)).getD 0 = lotH P w p.2 := fun i p hp => by rw [S.at hp]; rfl
  dsimp only at lim off on h ⊢
  generalize hg : lotH P w z = g at lim off on h ⊢
  intro f
  induction f with
  | zero => exact fun c stand _ _ hf => absurd hf (Nat.not_lt_zero _)
  | succ f ih =>
    intro c stand hst hc hf
    rw [setSearchFrom_succ]
    refine wpAny_bind (wpAny_setState_of S.obj rfl S.fit ?_)
    dsimp only
    rw [if_neg S.whole]
    have way_eq : ∀ q, (nth t.mask (trk t.mask g c) q).j = way t.mask g (c + q) := fun q => congrArg SetTable.Probe.j (trk_go t.mask g c q)
    have spec := go_spec t S.tab.ris S.tab.dm (fun i => (es[i]?.map (·.1)).getD 0) g (10 * SetTable.turns t.mask) (K - c) (trk t.mask g c) (nth_clean _ _ _ rfl) (by omega) (fun q hq => by rw [way_eq]; exact on (c + q) (by omega)) (by rw [way_eq, Nat.add_sub_cancel' hc]; exact off)
    have probe_eq : t.probe (fun i => (es[i]?.map (·.1)).getD 0) g (stand.getD (t.probeStart g)) = SetTable.probe.go t (fun i => (es[i]?.map (·.1)).getD 0) g (10 * SetTable.turns t.mask) (trk t.mask g c) := by
      rw [hst]
      rfl
    rw [probe_eq]
    rcases spec with ⟨q, i, hq, hi, _, _, e⟩ | ⟨_, e⟩
    · rw [e]
      dsimp only
      rw [way_eq] at hi ⊢
      have il : i < L.length := by
        have h1 : i < t.place.toList.length := (List.getElem?_eq_some_iff.mp hi).1
        rw [Array.length_toList, S.tab.sz, List.length_map] at h1
        exact h1
      obtain ⟨p, hpi⟩ : ∃ p, L[i]? = some p := ⟨_, List.getElem?_eq_getElem il⟩
      have pm : p ∈ L := List.mem_of_getElem? hpi
      have ne : ¬ (p.2 = z) := new p pm
      have tail : wpAny (model P w) A (searchRest a (.ref b) g true f es t (way t.mask g (c + q)) i (nth t.mask (trk t.mask g c) (q + 1))) Q E s := by
        unfold searchRest
        rw [S.at hpi]
        dsimp only
        refine wpAny_bind (wpAny_holding (wpAny_eqBool_tuple room (S.lots p pm) lot ?_))
        refine wpAny_bind (wpAny_setState_of S.obj rfl S.fit ?_)
        dsimp only
        rw [decide_eq_false ne, if_neg (by simp), sameMem]
        dsimp only
        have sl : t.slot (way t.mask g (c + q)) = .live i := slot_live S.tab.ris hi
        simp only [if_true, sl, S.at hpi]
        refine wpAny_bind (wpAny_isSame_ref_self (wpAny_bind (wpAny_pure ?_)))
        simp only [if_true]
        rw [if_neg Bool.false_ne_true]
        exact ih (c + (q + 1)) _ (trk_go t.mask g c (q + 1)) (by omega) (by omega)
      by_cases seen : t.led = true
      · rw [if_neg (by simp [seen])]
        exact tail
      · rw [if_pos (by simp [seen])]
        refine wpAny_bind (unseen_lot lot (fun u hu => ?_) ?_)
        · obtain ⟨e1, he1, rfl⟩ := List.mem_map.mp hu
          have he2 : e1 ∈ es.toList := by
            have he3 := Array.mem_filter.mp (Array.mem_toList_iff.mp he1)
            exact Array.mem_toList_iff.mpr he3.1
          rw [ent] at he2
          obtain ⟨p2, hp2, rfl⟩ := List.mem_map.mp he2
          exact ⟨p2.2, p2.1, rfl, S.lots p2 hp2⟩
        · rw [if_neg Bool.false_ne_true]
          exact tail
    · rw [e]
      dsimp only
      rw [way_eq, Nat.add_sub_cancel' hc]
      exact wpAny_pure h
end
end Fw
namespace Fw
open PySem PySem.Spec PyProof.Rows L2
theorem pick_map {α β : Type} (f : α → β) (L : List α) (l : List Nat) : (l.filterMap fun i => (L.map f)[i]?) = (l.filterMap fun i => L[i]?).map f := by
  rw [List.map_filterMap]
  exact congrFun (congrArg List.filterMap (funext fun i => List.getElem?_map ..)) l
theorem pick_all {α : Type} : ∀ L : List α, ((List.range L.length).filterMap fun i => L[i]?) = L
  | [] => rfl
  | x :: L => by
    rw [List.length_cons, List.range_succ_eq_map, List.filterMap_cons_some (show (x :: L)[0]? = some x from rfl), List.filterMap_map]
    exact congrArg (x :: ·) (pick_all L)
theorem pick_each {α β : Type} (f : α → β) (g : Nat → β) (L : List α) : ∀ l : List Nat, (∀ i ∈ l, L[i]?.map f = some (g i)) → (l.filterMap fun i => L[i]?).map f = l.map g
  | [], _ => rfl
  | i :: l, h => by
    have h1 := h i List.mem_cons_self
    cases e : L[i]? with
    | none => rw [e] at h1; cases h1
    | some x =>
      rw [e] at h1
      rw [List.filterMap_cons_some e, List.map_cons, List.map_cons, pick_each f g L l fun j hj => h j (List.mem_cons_of_mem _ hj)]
      rw [Option.some.inj h1]
section
variable {P : Program} {w : World} {A : Around} {E : Value → Shared → Prop} {s : Shared} {a : Addr} {L : List (Addr × List Str)} {D : Froz.SD} {hp : Heap}
theorem lot_same {hp hp' : Heap} {z : List Str} {b : Addr} (lot : LotAt P w hp z b) (here : hp.get? a = some (Froz.sObj "set" D)) (same : Heap.SameBut a hp hp') : LotAt P w hp' z b := by
  obtain ⟨ob, its, ep, hob, hcl, hdat, are⟩ := lot
  refine ⟨ob, its, ep, ?_, hcl, hdat, are⟩
  rw [same.2 b fun e => ?_]
  · exact hob
  · subst e
    rw [here] at hob
    have e2 := Option.some.inj hob
    rw [← e2] at hdat
    cases hdat
theorem put_obj (es' : Array (Int × Value)) (t' : SetTable) (here : hp.get? a = some (Froz.sObj "set" D)) : (hp.update a (Obj.putSet es' t')).get? a = some (Froz.sObj "set" (es', D.2.1 + 1, t')) := store_at here rfl
/-- the table is laid anew -/
theorem relay_lots (here : s.heap.get? a = some (Froz.sObj "set" D)) (ent : D.1.toList = L.map fun p => (lotH P w p.2, Value.ref p.1)) (T : TabOk D.2.2 (L.map fun p => lotH P w p.2)) (lots : ∀ p ∈ L, LotAt P w s.heap p.2 p.1) (led : w.params.followText "set-order" = true ∨ D.2.2.led = true) (n5 : L.length = 5) (lt : L.length ≤ D.2.2.mask) {Q : Unit → Shared → Prop}
    (h : ∀ (hp : Heap) (L' : List (Addr × List Str)) (D' : Froz.SD), Heap.SameBut a s.heap hp → LotSet P w hp a L' D' → L'.Perm L → Q () { s with heap := hp }) : wpAny (model P w) A (setRelay a (SetTable.grown 5)) Q E s := by
  obtain ⟨es, ep, t⟩ := D
  dsimp only at ent T led lt
  have siz : es.size = L.length := by rw [← Array.length_toList, ent, List.length_map]
  have fit : t.fits es.size = true := by rw [siz]; exact fits_of T (List.length_map ..) lt
  obtain ⟨t', order, e, pm, T', m', l', _, _⟩ := relaid_ok t (hs := es.map (·.1)) (wanted := SetTable.grown 5) (M := 31) (by rw [size_20]) (.inr (.inl rfl)) (by rw [Array.size_map, siz]; omega)
  rw [Array.size_map, siz] at pm
  have inL : ∀ i ∈ order.toList, i < L.length := fun i hi => List.mem_range.mp (pm.mem_iff.mp hi)
  have ent' : (order.filterMap (es[·]?)).toList = (order.toList.filterMap fun i => L[i]?).map fun p => (lotH P w p.2, Value.ref p.1) := by
    rw [Array.toList_filterMap, ← pick_map]
    refine congrFun (congrArg List.filterMap (funext fun i => ?_)) _
    rw [← ent, Array.getElem?_toList]
  have perm : (order.toList.filterMap fun i => L[i]?).Perm L := by
    have := pm.filterMap fun i => L[i]?
    rw [pick_all] at this
    exact this
  have hash' : (order.toList.filterMap fun i => L[i]?).map (fun p => lotH P w p.2) = order.toList.map fun i => (es.map (·.1)).getD i 0 := by
    refine pick_each _ _ L _ fun i hi => ?_
    have il := inL i hi
    have e1 : es[i]? = (L[i]?).map fun p => (lotH P w p.2, Value.ref p.1) := by rw [← Array.getElem?_toList, ent, List.getElem?_map]
    rw [List.getElem?_eq_getElem il] at e1 ⊢
    have e2 : (es.map (·.1))[i]? = some (lotH P w (L[i]).2) := by rw [Array.getElem?_map, e1]; rfl
    rw [Array.getD_eq_getD_getElem?, e2]
    rfl
  rw [← hash'] at T'
  have siz' : (order.filterMap (es[·]?)).size = es.size := by rw [← Array.length_toList, ent', List.length_map, perm.length_eq, siz]
  rw [setRelay_eq]
  refine wpAny_bind (wpAny_setState_of here rfl fit ?_)
  dsimp only
  rw [if_neg (by rw [size_20]; decide), e]
  dsimp only
  rw [if_neg (by rw [siz']; simp)]
  refine wpAny_bind (wpAny_bind (wpAny_pure (wpAny_pure ?_)))
  dsimp only
  refine wpAny_storeSet_of here rfl ?_ (by rw [siz', siz, n5]; decide)
  have same : Heap.SameBut a s.heap (s.heap.update a (Obj.putSet (order.filterMap (es[·]?)) t')) := Heap.SameBut.update ..
  refine h _ _ (order.filterMap (es[·]?), ep + 1, t') same { obj := put_obj _ _ here, ent := ent', tab := T', lots := fun p hp => lot_same (lots p (perm.mem_iff.mp hp)) here same, led := ?_, room := ?_, few := ?_ } perm
  · show _ ∨ t'.led = true
    rw [l']
    exact led
  · show _ < t'.mask * 3
    rw [perm.length_eq, m', n5]
    decide
  · rw [perm.length_eq, n5]
    decide
/-- a new lot comes in -/
theorem add_lot (S : LotSet P w s.heap a L D) {b : Addr} {z : List Str} (lot : LotAt P w s.heap z b) (new : ∀ p ∈ L, p.2 ≠ z) (room : A.units < cLine) (few : L.length < 8) {Q : Bool → Shared → Prop}
    (h : ∀ (hp : Heap) (L' : List (Addr × List Str)) (D' : Froz.SD), Heap.SameBut a s.heap hp → LotSet P w hp a L' D' → L'.Perm ((b, z) :: L) → Q true { s with heap := hp }) : wpAny (model P w) A (setAddHashed a (.ref b) (lotH P w z)) Q E s := by
  have roomL := S.room
  have siz := S.sz
  obtain ⟨K, lim, off, on⟩ := S.tab.first (by rw [List.length_map]; omega) (lotH P w z)
  have big : K < 100000 := by
    have : 10 * SetTable.turns D.2.2.mask ≤ 1420 := by
      unfold SetTable.turns
      rcases S.tab.mok with e | e | e <;> omega
    omega
  unfold setAddHashed
  refine wpAny_holding ?_
  rw [show (100000 : Nat) = 99999 + 1 from rfl, setAddHashedIn_succ]
  refine wpAny_bind (wpAny_setState_of S.obj rfl S.fit ?_)
  dsimp only
  rw [if_neg (by simp [byScan, Value.scannable])]
  refine wpAny_bind (m := setSearch a (.ref b) (lotH P w z) true) ?_
  unfold setSearch
  refine seek_lot S lot new room lim off on ?_ 100000 0 none rfl (Nat.zero_le _) (by omega)
  dsimp only
  refine wpAny_bind (wpAny_setState_of S.obj rfl S.fit ?_)
  obtain ⟨es, ep, t⟩ := D
  dsimp only at lim off on roomL siz ⊢
  obtain ⟨q1, q2, q3, q4, q5, q6, q7, q8, q9⟩ := TabOk.put S.tab off on
  dsimp only at q1 q2 q3 q4 q5 q9
  generalize t.put (way t.mask (lotH P w z) K) = pt at q1 q3 q4 q5 q9 ⊢
  obtain ⟨t1, j⟩ := pt
  dsimp only at q1 q3 q4 q5 q9 ⊢
  subst q1
  generalize SetTable.below t.place (way t.mask (lotH P w z) K) = j at q2 q3 ⊢
  have ent1 : (SetTable.insertAt es j (lotH P w z, Value.ref b)).toList = (L.take j ++ (b, z) :: L.drop j).map fun p => (lotH P w p.2, Value.ref p.1) := by
    rw [SetTable.toList_insertAt, show es.toList = L.map fun p => (lotH P w p.2, Value.ref p.1) from S.ent, List.map_append, List.map_cons, List.map_take, List.map_drop]
  have pm := put_perm L j (b, z)
  have T1 : TabOk t1 ((L.take j ++ (b, z) :: L.drop j).map fun p => lotH P w p.2) := by
    rw [List.map_append, List.map_cons, List.map_take, List.map_drop]
    exact q3
  have len1 : (L.take j ++ (b, z) :: L.drop j).length = L.length + 1 := pm.length_eq
  generalize L.take j ++ (b, z) :: L.drop j = L1 at ent1 pm T1 len1
  have siz1 : (SetTable.insertAt es j (lotH P w z, Value.ref b)).size = L.length + 1 := by rw [← Array.length_toList, ent1, List.length_map, len1]
  generalize SetTable.insertAt es j (lotH P w z, Value.ref b) = es1 at ent1 siz1 ⊢
  -- plain or not
  have rest : ∀ by' : Bool, wpAny (model P w) A (storeSet a es1 (if by' = true then t1 else { t1 with plain := false }) >>= fun _ => (if (!false && (if by' = true then t1 else { t1 with plain := false }).tooFull) = true then setRelay a (SetTable.grown (es.size + 1)) >>= fun _ => pure true else pure true)) Q E s := fun by' => by
    have T2 : TabOk (if by' = true then t1 else { t1 with plain := false }) (L1.map fun p => lotH P w p.2) := by
      cases by'
      · exact ⟨T1.ris, T1.dm, T1.sz, T1.mok, T1.bd, T1.reach⟩
      · exact T1
    have m2 : (if by' = true then t1 else { t1 with plain := false }).mask = t.mask := by cases by' <;> exact q4
    have l2 : (if by' = true then t1 else { t1 with plain := false }).led = t.led := by cases by' <;> exact q5
    have f2 : (if by' = true then t1 else { t1 with plain := false }).fill = L.length + 1 := by
      rw [List.length_map] at q9
      cases by' <;> exact q9
    generalize (if by' = true then t1 else { t1 with plain := false }) = t2 at T2 m2 l2 f2 ⊢
    refine wpAny_bind (wpAny_storeSet_of S.obj rfl ?_ (by rw [siz1]; exact Nat.le_trans few (by decide)))
    have same : Heap.SameBut a s.heap (s.heap.update a (Obj.putSet es1 t2)) := Heap.SameBut.update ..
    have obj1 := put_obj es1 t2 S.obj
    generalize s.heap.update a (Obj.putSet es1 t2) = hp1 at same obj1 ⊢
    have lots1 : ∀ p ∈ L1, LotAt P w hp1 p.2 p.1 := fun p hp => by
      rcases List.mem_cons.mp (pm.mem_iff.mp hp) with rfl | hp
      · exact lot_same lot S.obj same
      · exact lot_same (S.lots p hp) S.obj same
    have led1 : w.params.followText "set-order" = true ∨ t2.led = true := by rw [l2]; exact S.led
    by_cases full : t2.tooFull = true
    · rw [if_pos (by rw [full]; rfl), siz]
      have lim5 : (L.length + 1) * 5 ≥ t2.mask * 3 := by
        have := full
        unfold SetTable.tooFull at this
        rw [decide_eq_true_eq, f2] at this
        exact this
      have n4 : t.mask = 7 ∧ L.length = 4 := by
        rw [m2] at lim5
        rcases S.tab.mok with e | e | e
        · have e : t.mask = 7 := e
          rw [e] at lim5 roomL
          exact ⟨e, by omega⟩
        · have e : t.mask = 31 := e
          rw [e] at lim5
          omega
        · have e : t.mask = 127 := e
          rw [e] at lim5
          omega
      rw [n4.2]
      refine wpAny_bind (relay_lots (s := { s with heap := hp1 }) (D := (es1, ep + 1, t2)) obj1 ent1 T2 lots1 led1 (by rw [len1, n4.2]) (by show L1.length ≤ t2.mask; rw [len1, n4.2, m2, n4.1]; decide) fun hp2 L2 D2 same2 S2 pm2 => wpAny_pure (h hp2 L2 D2 (same.trans same2) S2 (pm2.trans pm)))
    · rw [if_neg (by simp [full])]
      refine wpAny_pure (h hp1 L1 (es1, ep + 1, t2) same { obj := obj1, ent := ent1, tab := T2, lots := lots1, led := led1, room := ?_, few := ?_ } pm)
      · have := full
        unfold SetTable.tooFull at this
        rw [decide_eq_true_eq, f2] at this
        show L1.length * 5 < t2.mask * 3
        rw [len1]
        omega
      · rw [len1]
        omega
  by_cases pl : t1.plain = true
  · rw [if_pos pl]
    exact wpAny_bind (hbv_lot lot rest)
  · rw [if_neg pl]
    exact wpAny_bind (wpAny_pure (rest true))
end
end Fw
namespace Fw
open PySem PySem.Spec PyProof.Rows L2
section
variable {P : Program} {w : World} {A : Around} {E : Value → Shared → Prop} {s : Shared}
theorem lot_keep {hp hp' : Heap} {z : List Str} {b : Addr} (lot : LotAt P w hp z b) (k : ∀ c o, hp.get? c = some o → hp'.get? c = some o) : LotAt P w hp' z b := by
  obtain ⟨ob, its, ep, hob, more⟩ := lot
  exact ⟨ob, its, ep, k _ _ hob, more⟩
theorem LotSet.keep {hp hp' : Heap} {a : Addr} {L : List (Addr × List Str)} {D : Froz.SD} (S : LotSet P w hp a L D) (k : ∀ o, hp.get? a = some o → hp'.get? a = some o) (lots : ∀ p ∈ L, LotAt P w hp' p.2 p.1) : LotSet P w hp' a L D := { S with obj := k _ S.obj, lots := lots }
theorem lotSet_fresh {hp : Heap} {a : Addr} (e : hp.get? a = some (freshSet w)) : LotSet P w hp a [] (#[], 0, .fresh 0 0 (!w.params.followText "set-order")) where
  obj := e
  ent := rfl
  tab := { ris := List.Pairwise.nil, dm := rfl, sz := rfl, mok := .inl rfl, bd := fun x hx => (by cases hx), reach := fun i h j hi => (by simp at hi) }
  lots := fun p hp => (by cases hp)
  led := by
    show _ ∨ (!w.params.followText "set-order") = true
    cases w.params.followText "set-order"
    · exact .inr rfl
    · exact .inl rfl
  room := by
    show 0 * 5 < 7 * 3
    decide
  few := Nat.zero_le _
/-- the loop of set(..) over lots -/
theorem lots_loop {I S : Addr} {fp wr : List Addr} {Gg : Array GenState → Array GenState → Prop} {n : Nat} {Pv : Nat → Value → Prop} {St : Nat → Shared → Prop} {R : Result → Shared → Prop}
    (Wk : WalksS P w A.in1 I fp wr Gg n Pv St) (out : S ∉ fp) (ks : List (Addr × List Str)) (hn : n = ks.length) (few : ks.length ≤ 8) (nd : (ks.map (·.2)).Nodup) (val : ∀ i v, Pv i v → ∃ p, ks[i]? = some p ∧ v = .ref p.1)
    (base : Heap) (lots : ∀ p ∈ ks, LotAt P w base p.2 p.1) (noS : base.get? S = none) (noW : ∀ b ∈ wr, base.get? b = none) (room : A.in1.units < cLine) :
    ∀ (left i : Nat) (s : Shared), n - i = left → i ≤ n → St i s → (∀ b o, base.get? b = some o → s.heap.get? b = some o) → (∃ L D, LotSet P w s.heap S L D ∧ L.Perm (ks.take i)) →
      (∀ s' L D, Moved (S :: wr) Gg s s' → LotSet P w s'.heap S L D → L.Perm ks → (∀ b o, base.get? b = some o → s'.heap.get? b = some o) → R (.ok (.ret .none)) s') →
      codeAny (model P w) A (.builtin "set.update.loop" ⟨[.ref S, .ref I], []⟩) R s := by
  have outw : S ∉ wr := fun z => out (Wk.sub _ z)
  have more : ∀ b ∈ wr, b ∈ S :: wr := fun b z => List.mem_cons_of_mem _ z
  have stays : ∀ {s s' : Shared}, Moved wr Gg s s' → (∀ b o, base.get? b = some o → s.heap.get? b = some o) → ∀ b o, base.get? b = some o → s'.heap.get? b = some o := fun mv k b o e => mv.heap b o (fun z => by rw [noW b z] at e; cases e) (k b o e)
  intro left
  induction left with
  | zero =>
    intro i s hl hi hst kp ⟨L, D, hS, pm⟩ done
    have e : i = n := by omega
    subst e
    rw [hn, List.take_length] at pm
    refine codeAny_builtin F.entry_set_update_loop ?_
    rw [Around.under_plainId F.plain_set_update_loop _]
    refine wpAny_bind (m := pyNext (.ref I)) (Wk.done s _ _ hst fun s' mv => wpAny_pure (done s' L D (mv.mono more) (hS.keep (fun o z => mv.heap S o outw z) fun p hp => lot_keep (lots p (pm.mem_iff.mp hp)) (stays mv kp)) pm (stays mv kp)))
  | succ left ih =>
    intro i s hl hi hst kp ⟨L, D, hS, pm⟩ done
    have lt : i < n := by omega
    refine codeAny_builtin F.entry_set_update_loop ?_
    rw [Around.under_plainId F.plain_set_update_loop _]
    refine wpAny_bind (m := pyNext (.ref I)) (Wk.item i s _ _ lt hst fun v s' hP hst' mv => ?_)
    obtain ⟨p, hp, rfl⟩ := val i v hP
    have kp' := stays mv kp
    have hS' : LotSet P w s'.heap S L D := hS.keep (fun o y => mv.heap S o outw y) fun q hq => lot_keep (lots q (List.mem_of_mem_take (pm.mem_iff.mp hq))) kp'
    have et : ks.take (i + 1) = ks.take i ++ [p] := take_next hp
    have new : ∀ q ∈ L, q.2 ≠ p.2 := fun q hq e => by
      have n1 : ((ks.take (i + 1)).map (·.2)).Nodup := by
        rw [List.map_take]
        exact nd.sublist (List.take_sublist ..)
      rw [et, List.map_append] at n1
      exact (List.nodup_append.mp n1).2.2 q.2 (List.mem_map_of_mem (pm.mem_iff.mp hq)) p.2 (by simp) e
    have len : L.length = i := by
      rw [pm.length_eq, List.length_take]
      omega
    show wpAny _ A.in1 (holding [Value.ref p.1] (setAdd S (.ref p.1)) >>= _) _ _ s'
    refine wpAny_bind (wpAny_holding ?_)
    unfold setAdd
    have lot : LotAt P w s'.heap p.2 p.1 := lot_keep (lots p (List.mem_of_getElem? hp)) kp'
    refine wpAny_holding (wpAny_bind (wpAny_pyHash_tuple room lot ?_))
    refine add_lot (s := { s' with toks := s'.toks + (p.2.length + 1) }) hS' lot new room (by omega) fun hp2 L2 D2 same S2 pm2 => ?_
    have kp2 : ∀ b o, base.get? b = some o → hp2.get? b = some o := fun b o e => (same.2 b fun z => by rw [z, noS] at e; cases e).trans (kp' b o e)
    refine wpAny_pure ⟨plainId_quiet F.plain_set_update_loop _, ih (i + 1) _ (by omega) lt (Wk.frame _ s' _ _ hst' (Nat.le_add_right _ _) fun c hc o y => (same.2 c fun q => out (q ▸ hc)).trans y) kp2 ⟨L2, D2, S2, ?_⟩ fun s2 L3 D3 mv2 hS3 pm3 kp3 => ?_⟩
    · rw [et]
      exact pm2.trans ((pm.cons p).trans (List.perm_append_singleton p _).symm)
    · exact done s2 L3 D3 (Moved.trans Wk.gtrans ((mv.mono more).then_heap (Nat.le_add_right _ _) fun c o hc y => (same.2 c fun q => hc (q ▸ List.mem_cons_self)).trans y) mv2) hS3 pm3 kp3
end
end Fw
namespace Fw
open PySem PySem.Spec PyProof.Rows L2
section
variable {P : Program} {w : World} {A : Around} {E : Value → Shared → Prop} {s : Shared}
set_option maxHeartbeats 6400000 in
/-- set(l), l a list of lots, all different -/
theorem call_set_lots {l : Addr} {its : Array Value} (ks : List (Addr × List Str)) {Q : Value → Shared → Prop} (calm : A.handled = none) (isl : s.heap.IsList l its) (are : its.toList = ks.map fun p => Value.ref p.1) (lots : ∀ p ∈ ks, LotAt P w s.heap p.2 p.1) (nd : (ks.map (·.2)).Nodup) (few : ks.length ≤ 8) (room : A.units + 3 < cLine)
    (fin : ∀ (hp : Heap) (tk : Nat) (L : List (Addr × List Str)) (D : Froz.SD), LotSet P w hp s.heap.objs.size L D → L.Perm ks → (∀ b o, s.heap.get? b = some o → hp.get? b = some o) → Q (.ref s.heap.objs.size) { s with heap := hp, toks := tk }) :
    wpAny (model P w) A (call (.type "set") [.ref l]) Q E s := by
  have len : its.size = ks.length := by rw [← Array.length_toList, are, List.length_map]
  obtain ⟨cc, ctl, hmr⟩ := F.called_set.mro
  have hmd := F.called_set.made
  have hsb := F.called_set.sub
  refine wpAny_call (codeAny_of_tree ?_)
  show wpAny _ _ (callAny (.type "set") ⟨[.ref l], []⟩) _ _ _
  refine wpAny_pure ⟨Code.quiet_builtin _ (by decide +kernel), codeAny_builtin F.entry_type_call ?_⟩
  rw [Around.under_plain (weight_type_call_type "set" [.ref l] []) rfl]
  have c1 := F.called_set.notType
  have c2 := F.called_set.canCreate
  have c3 := F.typeCall_set_1 (.ref l)
  repeat (any_goals (first | assumption | wp_step))
  refine codeAny_mono (code_set_led1 (.ref l) (E := E) (Q₁ := fun ob s1 => ob = .ref s.heap.objs.size ∧ s1 = { s with heap := s.heap.push (freshSet w) }) ⟨rfl, rfl⟩) fun r s1 hr => ?_
  cases r with
  | error er => exact hr
  | ok fl =>
    cases fl with
    | ret ob =>
      obtain ⟨rfl, rfl⟩ := hr
      have laid : (s.heap.push (freshSet w)).get? s.heap.objs.size = some (freshSet w) := Heap.get?_push_size _ rfl
      have typed : Shared.TypeIs { s with heap := s.heap.push (freshSet w) } (.ref s.heap.objs.size) "set" := ⟨_, laid, rfl⟩
      have li := F.called_set.init.lookup
      have bi := F.called_set.init.bind (.ref s.heap.objs.size)
      repeat (any_goals (first | assumption | wp_step))
      refine codeAny_mono (codeAny_call_builtin (R := wants (fun r s2 => r = .none ∧ ∃ hp tk L D, s2 = { s with heap := hp, toks := tk } ∧ LotSet P w hp s.heap.objs.size L D ∧ L.Perm ks ∧ ∀ b o, s.heap.get? b = some o → hp.get? b = some o) E) F.called_set.init.plain F.entry_set_init (check_set_init_1 typed ?_)) fun r2 s2 hr2 => ?_
      · obtain ⟨⟨k1, k2, k3, k4⟩, hol, hcl, nl, hdl⟩ := isl
        simp only at hcl hdl
        subst hcl
        subst hdl
        have hol1 : (s.heap.push (freshSet w)).get? l = some { cls := .type "list", dict := k2, data := .seq its nl, slots := k4 } := Heap.get?_push_of_some _ hol
        have d1 := F.sub_list_set
        have d2 := F.sub_list_frozenset
        have d3 : (Value.type "list" == Value.type "dict") = false := by decide
        have isl1 : (s.heap.push (freshSet w)).IsList l its := ⟨_, hol1, rfl, nl, rfl⟩
        unfold Builtin.«set.__init__» noKeywords Builtin.Frozenset.updateFrom
        generalize hPy : pyIter = Py
        wp_walk
        subst hPy
        refine wpAny_pyIter_list isl1 (wpAny_bind (wpAny_runValue ?_))
        have below : l < s.heap.objs.size := Heap.lt_size hol
        have size1 : (s.heap.push (freshSet w)).objs.size = s.heap.objs.size + 1 := Heap.size_push ..
        have apart : l ≠ (s.heap.push (freshSet w)).objs.size := by rw [size1]; exact nat_a below
        have off : s.heap.objs.size ∉ [(s.heap.push (freshSet w)).objs.size, l] := by
          rw [size1]
          simp only [List.mem_cons, List.not_mem_nil, or_false, not_or]
          exact nat_b below
        have vals : ∀ (i : Nat) (v : Value), its[i]? = some v → ∃ p, ks[i]? = some p ∧ v = .ref p.1 := fun i v hv => by
          rw [← Array.getElem?_toList, are, List.getElem?_map] at hv
          obtain ⟨p, hp, rfl⟩ := Option.map_eq_some_iff.mp hv
          exact ⟨p, hp, rfl⟩
        have gone : ∀ b, s.heap.objs.size ≤ b → s.heap.get? b = none := fun b hb => by
          cases q : s.heap.get? b with
          | none => rfl
          | some o => exact absurd (Nat.lt_of_lt_of_le (Heap.lt_size q) hb) (Nat.lt_irrefl _)
        have calm3 : A.in1.in1.in1.handled = none := by simp [calm]
        refine lots_loop ((Walks.list calm3 _ l apart its).toS) off ks len few nd vals s.heap lots (gone _ (Nat.le_refl _)) (fun b hb => gone b (by rw [List.mem_singleton.mp hb, size1]; exact Nat.le_succ _)) room (its.size - 0) 0 _ (by omega) (Nat.zero_le _) ⟨⟨_, Heap.get?_push_size _ rfl, rfl, rfl⟩, (isl1.push _)⟩ (fun b o e => Heap.get?_push_of_some _ (Heap.get?_push_of_some _ e)) ⟨[], _, lotSet_fresh (Heap.get?_push_of_some _ laid), List.Perm.refl _⟩ fun s3 L D mv hm pm kp => ?_
        obtain ⟨hp, g3, d3', tk, os3⟩ := s3
        have e1 : g3 = s.gens := mv.gens
        have e2 : d3' = s.drawn := mv.drawn
        have e3 : os3 = s.os := mv.os
        subst e1
        subst e2
        subst e3
        refine wpAny_pure ?_
        show wpAny _ _ (ret Value.none) _ _ _
        exact wpAny_pure ⟨rfl, hp, tk, L, D, rfl, hm, pm, kp⟩
      · cases r2 with
        | error er => exact hr2
        | ok fl2 =>
          cases fl2 with
          | ret r =>
            obtain ⟨rfl, hp, tk, L, D, rfl, hm, pm, same⟩ := hr2
            repeat (any_goals (first | assumption | wp_step))
            exact fin _ _ _ _ hm pm same
          | _ => exact hr2.elim
    | _ => exact hr.elim
end
end Fw
namespace Fw
open PySem PySem.Spec PyProof.Rows L2 PySem.W
theorem items_strs {P : Program} {w : World} : ∀ {z : List Str} {us : List Value}, Vals (z.map V.str) us → ItemsAre (strKind P w) z us
  | [], _, .nil => .nil
  | y :: z, _, .cons r t => by
    obtain ⟨k, rfl⟩ := r
    exact .cons (Froz.is_str y k) (items_strs t)
theorem refs_of : ∀ {ks : List (Addr × List Str)} {us : List Value}, Vals (ks.map fun p => V.ref p.1) us → us = ks.map fun p => Value.ref p.1
  | [], _, .nil => rfl
  | p :: ks, _, .cons r t => by
    cases r
    rw [List.map_cons, refs_of t]
theorem lots_of {W : Wd} {G : Hp} : ∀ {xs : List (List Str)} {vs : List V}, RpA W G vs (xs.map fun l => D.tup (l.map .str)) → ∃ ks : List (Addr × List Str), vs = ks.map (fun p => V.ref p.1) ∧ ks.map (·.2) = xs ∧ ∀ p ∈ ks, SqT W.K G p.1 (p.2.map V.str)
  | [], _, .nil => ⟨[], rfl, rfl, fun p hp => by cases hp⟩
  | l :: xs, _, .cons r t => by
    obtain ⟨ks, rfl, rfl, h⟩ := lots_of t
    cases r with
    | tup sq r =>
      have e := r.strs
      subst e
      refine ⟨(_, l) :: ks, rfl, rfl, fun p hp => ?_⟩
      rcases List.mem_cons.mp hp with rfl | hp
      · exact sq
      · exact h p hp
/-- a set of n things -/
def CountO (a : Addr) (n : Nat) : HO := .ext fun hp => ∃ D : Froz.SD, hp.get? a = some (Froz.sObj "set" D) ∧ D.2.2.fits D.1.size = true ∧ D.1.size = n
section
variable {X : Cx}
def rSetLots (K : PySem.W.Frag) : List V → Hp → VK → Prop := fun vs H Q => ∃ (a : Addr) (ks : List (Addr × List Str)), vs = [V.ref a] ∧ SqL K H a (ks.map fun p => V.ref p.1) ∧ (∀ p ∈ ks, SqT K H p.1 (p.2.map V.str)) ∧ (ks.map (·.2)).Nodup ∧ ks.length ≤ 8 ∧ ∀ p, H p = none → Q (.ref p) (upd H p (CountO p ks.length))
theorem cr_setLots (calm : X.calm = true) (hu : X.A.units + 64 < cLine) : CallR X (.type "set") (rSetLots X.K) := by
  intro pins s σ H vs us Q I r h
  obtain ⟨a, ks, rfl, hl, hk, nd, few, q⟩ := h
  obtain ⟨its, rv, lst, big⟩ := I.list hl
  rw [Vals.ref1 r]
  have are := refs_of rv
  refine call_set_lots ks (I.ok.hd calm) lst.isList (by simpa using are) (fun p hp => ?_) nd few (by omega) fun hp tk L D S pm keep => ?_
  · obtain ⟨us, ru, hT, _⟩ := I.tuple (hk p hp)
    obtain ⟨ob, hob, hcl, n, hdat⟩ := hT
    exact ⟨ob, us.toArray, n, hob, hcl, hdat, by simpa using items_strs ru⟩
  · have new : ObjOk X.prog X.w (upd H s.heap.objs.size (CountO s.heap.objs.size ks.length)) hp s.heap.objs.size (CountO s.heap.objs.size ks.length) :=
      ⟨⟨D, S.obj, S.fit, by rw [S.sz, pm.length_eq]⟩, ⟨_, S.obj⟩, fun h1 h2 ⟨D, e, m⟩ k => ⟨D, k _ e, m⟩⟩
    exact ⟨.ref _, _, I.laid (t' := tk) keep (Nat.le_refl _) new, rfl, q _ (I.hok.fresh (Nat.le_refl _))⟩
def rLenCount : List V → Hp → VK → Prop := fun vs H Q => ∃ (a : Addr) (n : Nat), vs = [V.ref a] ∧ H a = some (CountO a n) ∧ n ≤ 8 ∧ Q (.int n) H
theorem cr_lenCount : CallR X (.builtin "len") rLenCount := by
  intro pins s σ H vs us Q I r h
  obtain ⟨a, n, rfl, ha, hz, q⟩ := h
  rw [Vals.ref1 r]
  obtain ⟨D, here, fit, sz⟩ := (I.hok a _ ha).1
  refine call_len_set (es := D.1) (ep := D.2.1) (t := D.2.2) here ⟨rfl, rfl, rfl⟩ rfl fit (by rw [sz]; omega) ⟨.int n, H, I.tok _, ⟨_, by rw [sz]⟩, q⟩
variable {ss : List Slot} {e : Expr} {pos p p2 q : Pos}
/-- len(set(e)), e a list of lots, all different -/
theorem ee_lenLots {xs : List (List Str)} (hu : X.A.units + 64 < cLine) (hm : X.mg "len" = none) (hm2 : X.mg "set" = none) (ha : EE X ss e (.lst (xs.map fun l => D.tup (l.map .str)))) (nd : xs.Nodup) (hl : xs.length ≤ 8) (hc : X.calm = true) (hg : Gl X "len") (hg2 : Gl X "set")
    (he : starEach [e] X.env = (false, eval e X.env) :: starEach [] X.env) (he2 : starEach [.Call (.Name "set" p2) [e] [] q] X.env = (false, eval (.Call (.Name "set" p2) [e] [] q) X.env) :: starEach [] X.env) (hpl : (backTo q (starEach [] X.env)).any (·.1) = false) (hpl2 : (backTo pos (starEach [] X.env)).any (·.1) = false) :
    EE X ss (.Call (.Name "len" p) [.Call (.Name "set" p2) [e] [] q] [] pos) (.int xs.length) := fun H0 G H σ i s Q k =>
  wE.of (pe_callB cr_lenCount hg hm PySem.boot_len (pa_cons (pe_callTy (cr_setLots hc hu) hg2 hm2 PyProof.Rows.boot_set (pa_cons pe_w pa_nil he) (by decide) (by decide) he hpl) pa_nil he2) (by decide) (by decide) he2 hpl2) (ha H0 G H σ i s _ fun v G1 H1 g1 r1 => by
    cases r1 with
    | lst sq r =>
      obtain ⟨ks, rfl, rfl, lots⟩ := lots_of r
      have n : ks.length = (ks.map (·.2)).length := (List.length_map ..).symm
      refine ⟨_, ks, rfl, SqL.of (g1.i _ _ sq), fun p hp => g1.i.t (lots p hp), nd, by rw [n]; exact hl, fun a hn => ?_⟩
      have g2 := g1.trans (.hid (o := CountO a ks.length) g1.i hn)
      refine ⟨a, ks.length, rfl, upd_same, by rw [n]; exact hl, ?_⟩
      rw [n]
      exact k _ G1 _ (n ▸ g2) (.int _))
end
end Fw
namespace Fw
open PySem PySem.Spec PyProof.Rows L2 PySem.W
/-- the built-ins stand under their names -/
structure Bt (mg : Str → Option Value) : Prop where
  len : mg "len" = none
  all : mg "all" = none
  any : mg "any" = none
  range : mg "range" = none
  sorted : mg "sorted" = none
  set : mg "set" = none
  list : mg "list" = none
  tuple : mg "tuple" = none
  int : mg "int" = none
  abs : mg "abs" = none
  max : mg "max" = none
  repr : mg "repr" = none
def eLot (l : List Str) : D := .tup (l.map .str)
section
variable {X : Cx} {ss : List Slot} {e : Expr} {pos p p2 q : Pos}
theorem ee_lenSetS {xs : List Str} (hm : X.mg "len" = none) (hm2 : X.mg "set" = none) (ha : EE X ss e (.lst (xs.map .str))) (nd : xs.Nodup) (hl : xs.length ≤ 100) (hc : X.calm = true := by rfl) (hg : Gl X "len" := by rfl) (hg2 : Gl X "set" := by rfl) (he : starEach [e] X.env = (false, eval e X.env) :: starEach [] X.env := by first | kernel_rfl! | rfl) (he2 : starEach [.Call (.Name "set" p2) [e] [] q] X.env = (false, eval (.Call (.Name "set" p2) [e] [] q) X.env) :: starEach [] X.env := by first | kernel_rfl! | rfl) (hpl : (backTo q (starEach [] X.env)).any (·.1) = false := by first | kernel_rfl! | rfl) (hpl2 : (backTo pos (starEach [] X.env)).any (·.1) = false := by first | kernel_rfl! | rfl) : EE X ss (.Call (.Name "len" p) [.Call (.Name "set" p2) [e] [] q] [] pos) (.int xs.length) := ee_lenSet hm hm2 ha nd (by omega) hc hg hg2 he he2 hpl hpl2
theorem ee_lenSetT {xs : List (List Str)} (hm : X.mg "len" = none) (hm2 : X.mg "set" = none) (hu : X.A.units + 64 < cLine) (ha : EE X ss e (.lst (xs.map eLot))) (nd : xs.Nodup) (hl : xs.length ≤ 8) (hc : X.calm = true := by rfl) (hg : Gl X "len" := by rfl) (hg2 : Gl X "set" := by rfl) (he : starEach [e] X.env = (false, eval e X.env) :: starEach [] X.env := by first | kernel_rfl! | rfl) (he2 : starEach [.Call (.Name "set" p2) [e] [] q] X.env = (false, eval (.Call (.Name "set" p2) [e] [] q) X.env) :: starEach [] X.env := by first | kernel_rfl! | rfl) (hpl : (backTo q (starEach [] X.env)).any (·.1) = false := by first | kernel_rfl! | rfl) (hpl2 : (backTo pos (starEach [] X.env)).any (·.1) = false := by first | kernel_rfl! | rfl) : EE X ss (.Call (.Name "len" p) [.Call (.Name "set" p2) [e] [] q] [] pos) (.int xs.length) := ee_lenLots hu hm hm2 ha nd hl hc hg hg2 he he2 hpl hpl2
end
end Fw
namespace Fw
open PySem PySem.Spec PyProof.Rows L2
/-! ### names and lots -/
def lettersS : Str := "abcdefghijklmnopqrstuvwxyz0123456789"
structure IsNm (z : Str) : Prop where
  lo : 1 ≤ z.length
  hi : z.length ≤ 12
  al : ∀ c ∈ z.cps.toList, c ∈ lettersS.cps.toList
def Asc (l : List Str) : Prop := l.Pairwise slt
structure IsLot (l : List Str) : Prop where
  nm : ∀ z ∈ l, IsNm z
  asc : Asc l
  few : l.length ≤ 100
structure LotOf (l known : List Str) : Prop extends IsLot l where
  sub : ∀ z ∈ l, z ∈ known
def eStrs (l : List Str) : D := .lst (l.map .str)
theorem true_all {α : Type} (l : List α) : (l.map fun _ => true).all id = true := by
  induction l with
  | nil => rfl
  | cons x r ih => rw [List.map_cons, List.all_cons, ih]; rfl
theorem false_any {α : Type} (l : List α) : (l.map fun _ => false).any id = false := by
  induction l with
  | nil => rfl
  | cons x r ih => rw [List.map_cons, List.any_cons, ih]; rfl
theorem map_true {α : Type} (l : List α) : (l.map fun _ => D.bl true) = (l.map fun _ => true).map D.bl := by rw [List.map_map]; rfl
theorem map_false {α : Type} (l : List α) : (l.map fun _ => D.bl false) = (l.map fun _ => false).map D.bl := by rw [List.map_map]; rfl
def bk {N : List Str} {sc scope : Scope} {own : List (Str × Nat)} (h : blkC N sc scope own = true) : BlkOk N sc scope own := blkOk_by h
section
variable {P : Program} {w : World} {K : PySem.W.Frag} {mg : Str → Option Value} {base : Heap}
section
variable {X : Cx} {ss : List Slot} {e elt tg it : Expr} {pos p p2 : Pos} {scope : Scope} {own : List (Str × Nat)} {α : Type} {xs : List α}
/-- all([.. for ..]), each of them true; any, each of them false -/
theorem ee_allT (hm : X.mg "all" = none) (enc : α → D) (ws : α → List (Nat × D)) (hN : X.N.Nodup) (ok : BlkOk X.N X.env.scope scope own) (hi : EI X ss tg it (xs.map enc)) (hl : xs.length ≤ 100000)
    (hg : ∀ d ∈ xs, Bk X scope fun Y => GD Y (wipeS ss (own.map (·.2))) tg (enc d) (ws d)) (hw : ∀ d ∈ xs, ∀ p ∈ ws d, p.1 ∈ own.map (·.2))
    (he : ∀ d ∈ xs, Bk X scope fun Y => EE Y (putS (wipeS ss (own.map (·.2))) (ws d)) elt (.bl true))
    (hc : X.calm = true := by rfl) (hs : ∀ x, foldedSetIterable it X.env x = pure x := by intro _; rfl) (hG : Gl X "all" := by rfl) : EE X ss (.Call (.Name "all" p) [.ListComp elt [⟨tg, it, [], 0⟩] scope p2] [] pos) (.bl true) :=
  (ee_all hm (EO.ee ((eo_lc0 enc (fun _ => .bl true) ws hN ok hi hl hg hw he hc hs).cast (map_true _))) hc hG rfl rfl).cast (by rw [true_all])
end
def T_is_name (ds : List D) (d : D) : Prop := ∃ z : Str, IsNm z ∧ ds = [.str z] ∧ d = .bl true
theorem c_is_name {f : Addr} {fd : FuncData} (F : C8.Def K mg "is_name" (top 13) f fd) (b : Binds K fd ["text"] []) (B : Bt mg) (mL : ∃ t, mg "LETTERS" = some (.str lettersS t)) : C8.Cal P w K mg base 1 "is_name" (spP ⟨P, w, K⟩ T_is_name) [] := by
  have S : FnScope ["text", "sign"] ["text"] (C8.fnScope (top 13)) := C8.fnScope_by (by decide +kernel)
  obtain ⟨t, mL⟩ := mL
  refine calP T_is_name F b S (fun ds d ⟨z, _, h, _⟩ => by rw [h]; rfl) (by decide) fun cdv A outer s H E hr ds d h => ?_
  obtain ⟨z, hz, rfl, rfl⟩ := h
  refine sd_cons (ss_ret ((ee_and (ee_chain ee_int (ee_lenS B.len (ee_var 0 rfl) (by have := hz.hi; omega)) ee_int) fun _ => ee_one' ((ee_all B.all (EO.ee (EO.cast (eo_lc0 (own := [("sign", 1)]) (fun c => .str ⟨#[c]⟩) (fun c => .bl true) (fun d => [(1, .str ⟨#[d]⟩)]) S.nd (blkOk_by (N := ["text", "sign"]) (sc := C8.fnScope (top 13)) (by decide +kernel)) (ei_str (ee_var 0 rfl)) ?_ (fun d hd s H C cl fp => gd_name 1 S.nd) ?_ (fun d hd s H C cl fp => ?_)) (map_true _)))).cast (by rw [true_all]))).cast ?_) rfl)
  · have := hz.hi
    have e : z.cps.toList.length = z.length := by simp [Str.length]
    omega
  · simp
  · exact (ee_c2 cmp_inC (ee_var 1 rfl) (ee_globS mL)).cast (by rw [decide_eq_true (hz.al d hd)])
  · have h1 := hz.lo
    have h2 := hz.hi
    rw [decide_eq_true (show (1 : Int) ≤ z.length by omega), decide_eq_true (show (z.length : Int) ≤ 12 by omega)]
    rfl
def T_is_lot (ds : List D) (d : D) : Prop := ∃ l, IsLot l ∧ ds = [eLot l] ∧ d = .bl true
theorem c_is_lot {f : Addr} {fd : FuncData} (F : C8.Def K mg "is_lot" (top 14) f fd) (b : Binds K fd ["names"] []) (B : Bt mg) (c1 : C8.Cal P w K mg base 1 "is_name" (spP ⟨P, w, K⟩ T_is_name) []) : C8.Cal P w K mg base 2 "is_lot" (spP ⟨P, w, K⟩ T_is_lot) [] := by
  have S : FnScope ["names", "name", "k"] ["names"] (C8.fnScope (top 14)) := C8.fnScope_by (by decide +kernel)
  refine calP T_is_lot F b S (fun ds d ⟨z, _, h, _⟩ => by rw [h]; rfl) (by decide) fun cdv A outer s H E hr ds d h => ?_
  obtain ⟨l, hz, rfl, rfl⟩ := h
  have hf := hz.few
  refine sd_cons (ss_if (x := false) ((et_not (et_val (ee_all B.all (EO.ee (EO.cast (eo_lc0 (own := [("name", 1)]) .str (fun c => .bl true) (fun d => [(1, .str d)]) S.nd (blkOk_by (N := ["names", "name", "k"]) (sc := C8.fnScope (top 14)) (by decide +kernel)) (ei_tup (ee_var 0 rfl)) (by omega) (fun d hd s H C cl fp => gd_name 1 S.nd) (by simp) (fun d hd s H C cl fp => ?_)) (map_true _)))))).cast (by rw [true_all]; rfl)) (fun h => nomatch h) fun _ => sd_nil ?_)
  · exact ee_call c1 hr (by decide) (ea_cons (ee_var 1 rfl) ea_nil) ⟨d, hz.nm d hd, rfl, rfl⟩
  · refine sd_cons (ss_ret ((ee_all B.all (EO.ee (EO.cast (eo_lc0 (own := [("k", 2)]) (fun i : Nat => .int i) (fun c => .bl true) (fun d => [(2, .int d)]) S.nd (blkOk_by (N := ["names", "name", "k"]) (sc := C8.fnScope (top 14)) (by decide +kernel)) (ei_rngI (n := (l.length : Int) - 1) B.range ((ee_sub (ee_lenT B.len (ee_var 0 rfl)) ee_int).cast (by rw [List.length_map])) (by omega) (by omega)) ?_ (fun d hd s H C cl fp => gd_name 2 S.nd) (by simp) (fun k hk s H C cl fp => ?_)) (map_true _)))).cast (by rw [true_all])) rfl)
    · rw [List.length_range]
      omega
    · have hk' : k + 1 < l.length := by
        have := List.mem_range.mp hk
        omega
      refine EE.cast (ee_c2 cmp_ltS (ee_ixT (i := (k : Int)) (ee_var 0 rfl) (ee_var 2 rfl) (atI_nat (j := k) (v := D.str (l[k]'(by omega))) ?_)) (ee_ixT (i := ((k + 1 : Nat) : Int)) (ee_var 0 rfl) (EE.cast (ee_add (ee_var 2 rfl) ee_int) rfl) (atI_nat (j := k + 1) (v := D.str (l[k + 1]'hk')) ?_))) ?_
      · rw [List.getElem?_map, List.getElem?_eq_getElem (by omega)]
        rfl
      · rw [List.getElem?_map, List.getElem?_eq_getElem hk']
        rfl
      · have := List.pairwise_iff_getElem.mp hz.asc k (k + 1) (by omega) hk' (by omega)
        exact congrArg D.bl (decide_eq_true this)
def T_is_lot_of (ds : List D) (d : D) : Prop := ∃ l known, LotOf l known ∧ ds = [eLot l, eStrs known] ∧ d = .bl true
theorem c_is_lot_of {f : Addr} {fd : FuncData} (F : C8.Def K mg "is_lot_of" (top 15) f fd) (b : Binds K fd ["names", "known"] []) (B : Bt mg) (c1 : C8.Cal P w K mg base 2 "is_lot" (spP ⟨P, w, K⟩ T_is_lot) []) : C8.Cal P w K mg base 3 "is_lot_of" (spP ⟨P, w, K⟩ T_is_lot_of) [] := by
  have S : FnScope ["names", "known", "name"] ["names", "known"] (C8.fnScope (top 15)) := C8.fnScope_by (by decide +kernel)
  refine calP T_is_lot_of F b S (fun ds d ⟨z, _, _, h, _⟩ => by rw [h]; rfl) (by decide) fun cdv A outer s H E hr ds d h => ?_
  obtain ⟨l, known, hz, rfl, rfl⟩ := h
  have hf := hz.few
  refine sd_cons (ss_ret (EE.cast (ee_and (ee_call c1 hr (by decide) (ea_cons (ee_var 0 rfl) ea_nil) ⟨l, hz.toIsLot, rfl, rfl⟩) fun _ => ee_one' (ee_allT (own := [("name", 2)]) B.all .str (fun d => [(2, .str d)]) S.nd (blkOk_by (N := ["names", "known", "name"]) (sc := C8.fnScope (top 15)) (by decide +kernel)) (ei_tup (ee_var 0 rfl)) (by omega) (fun d hd s H C cl fp => gd_name 2 S.nd) (by simp) (fun d hd s H C cl fp => ?_))) rfl) rfl)
  exact EE.cast (ee_c2 cmp_inL (ee_var 2 rfl) (ee_var 1 rfl)) (congrArg D.bl (decide_eq_true (hz.sub d hd)))
structure Turned (on off holds : List Str) : Prop where
  von : LotOf on holds
  voff : LotOf off holds
  dj : ∀ x ∈ on, x ∉ off
def T_are_turned (ds : List D) (d : D) : Prop := ∃ on off holds, Turned on off holds ∧ ds = [eLot on, eLot off, eStrs holds] ∧ d = .bl true
theorem c_are_turned {f : Addr} {fd : FuncData} (F : C8.Def K mg "are_turned" (top 16) f fd) (b : Binds K fd ["on", "off", "holds"] []) (B : Bt mg) (c1 : C8.Cal P w K mg base 3 "is_lot_of" (spP ⟨P, w, K⟩ T_is_lot_of) []) : C8.Cal P w K mg base 4 "are_turned" (spP ⟨P, w, K⟩ T_are_turned) [] := by
  have S : FnScope ["on", "off", "holds", "name"] ["on", "off", "holds"] (C8.fnScope (top 16)) := C8.fnScope_by (by decide +kernel)
  refine calP T_are_turned F b S (fun ds d ⟨_, _, _, _, h, _⟩ => by rw [h]; rfl) (by decide) fun cdv A outer s H E hr ds d h => ?_
  obtain ⟨on, off, holds, hz, rfl, rfl⟩ := h
  have hf := hz.von.few
  refine sd_cons (ss_ret (EE.cast (ee_and (ee_call c1 hr (by decide) (ea_cons (ee_var 0 rfl) (ea_cons (ee_var 2 rfl) ea_nil)) ⟨on, holds, hz.von, rfl, rfl⟩) fun _ => ee_and (ee_call c1 hr (by decide) (ea_cons (ee_var 1 rfl) (ea_cons (ee_var 2 rfl) ea_nil)) ⟨off, holds, hz.voff, rfl, rfl⟩) fun _ => ee_one' (ee_not (ee_any B.any (EO.ee (EO.cast (eo_lc0 (own := [("name", 3)]) .str (fun _ => .bl false) (fun d => [(3, .str d)]) S.nd (blkOk_by (N := ["on", "off", "holds", "name"]) (sc := C8.fnScope (top 16)) (by decide +kernel)) (ei_tup (ee_var 0 rfl)) (by omega) (fun d hd s H C cl fp => gd_name 3 S.nd) (by simp) (fun d hd s H C cl fp => ?_)) (map_false _)))))) ?_) rfl)
  · exact EE.cast (ee_c2 cmp_inT (ee_var 3 rfl) (ee_var 1 rfl)) (congrArg D.bl (decide_eq_false (hz.dj d hd)))
  · rw [false_any]
    rfl
def T_require (ds : List D) (d : D) : Prop := ds = [.bl true] ∧ d = .non
theorem c_require {f : Addr} {fd : FuncData} (F : C8.Def K mg "require" (top 17) f fd) (b : Binds K fd ["holds"] []) : C8.Cal P w K mg base 1 "require" (spP ⟨P, w, K⟩ T_require) [] := by
  have S : FnScope ["holds"] ["holds"] (C8.fnScope (top 17)) := C8.fnScope_by (by decide +kernel)
  refine calP T_require F b S (fun ds d ⟨h, _⟩ => by rw [h]; rfl) (by decide) fun cdv A outer s H E hr ds d h => ?_
  obtain ⟨rfl, rfl⟩ := h
  exact sd_cons (ss_if (x := false) (ET.cast (et_not (x := true) (et_val (ee_var 0 rfl))) rfl) (fun h => nomatch h) fun _ => sd_nil (sd_nil rfl))
structure NamesOk (ns : List Str) (lo hi : Int) : Prop where
  lo : lo ≤ ns.length
  hi : (ns.length : Int) ≤ hi
  nm : ∀ z ∈ ns, IsNm z
  nd : ns.Nodup
  few : ns.length ≤ 100
def T_require_names (ds : List D) (d : D) : Prop := ∃ ns lo hi, NamesOk ns lo hi ∧ ds = [eStrs ns, .int lo, .int hi] ∧ d = .non
theorem c_require_names {f : Addr} {fd : FuncData} (F : C8.Def K mg "require_names" (top 18) f fd) (b : Binds K fd ["names", "least", "most"] []) (B : Bt mg) (c1 : C8.Cal P w K mg base 1 "is_name" (spP ⟨P, w, K⟩ T_is_name) []) (c2 : C8.Cal P w K mg base 1 "require" (spP ⟨P, w, K⟩ T_require) []) : C8.Cal P w K mg base 2 "require_names" (spP ⟨P, w, K⟩ T_require_names) [] := by
  have S : FnScope ["names", "least", "most", "name"] ["names", "least", "most"] (C8.fnScope (top 18)) := C8.fnScope_by (by decide +kernel)
  refine calP T_require_names F b S (fun ds d ⟨_, _, _, _, h, _⟩ => by rw [h]; rfl) (by decide) fun cdv A outer s H E hr ds d h => ?_
  obtain ⟨ns, lo, hi, hz, rfl, rfl⟩ := h
  have hf := hz.few
  refine sd_cons (ss_expr (ee_call c2 hr (by decide) (ea_cons (EE.cast (ee_and (ee_chain (ee_var 1 rfl) (ee_lenL B.len (ee_var 0 rfl)) (ee_var 2 rfl)) fun _ => ee_and (ee_allT (own := [("name", 3)]) B.all .str (fun d => [(3, .str d)]) S.nd (blkOk_by (N := ["names", "least", "most", "name"]) (sc := C8.fnScope (top 18)) (by decide +kernel)) (ei_lst (ee_var 0 rfl)) (by omega) (fun d hd s H C cl fp => gd_name 3 S.nd) (by simp) (fun d hd s H C cl fp => ?_)) fun _ => ee_one' (ee_c2 cmp_eqI (ee_lenSetS B.len B.set (ee_var 0 rfl) hz.nd hf) (ee_lenL B.len (ee_var 0 rfl)))) ?_) ea_nil) ⟨rfl, rfl⟩) (sd_nil rfl))
  · exact ee_call c1 hr (by decide) (ea_cons (ee_var 3 rfl) ea_nil) ⟨d, hz.nm d hd, rfl, rfl⟩
  · have h1 := hz.lo
    have h2 := hz.hi
    simp [h1, h2]
def eOpt : Option Str → D
  | none => .non
  | some x => .str x
def T_is_effect (ds : List D) (d : D) : Prop := ∃ on off holds, ∃ to : Option Str, ∃ modes, Turned on off holds ∧ (∀ x, to = some x → x ∈ modes) ∧ ds = [eLot on, eLot off, eOpt to, eStrs holds, eStrs modes] ∧ d = .bl true
theorem c_is_effect {f : Addr} {fd : FuncData} (F : C8.Def K mg "is_effect" (top 19) f fd) (b : Binds K fd ["on", "off", "to", "holds", "modes"] []) (c1 : C8.Cal P w K mg base 4 "are_turned" (spP ⟨P, w, K⟩ T_are_turned) []) : C8.Cal P w K mg base 5 "is_effect" (spP ⟨P, w, K⟩ T_is_effect) [] := by
  have S : FnScope ["on", "off", "to", "holds", "modes"] ["on", "off", "to", "holds", "modes"] (C8.fnScope (top 19)) := C8.fnScope_by (by decide +kernel)
  refine calP T_is_effect F b S (fun ds d ⟨_, _, _, _, _, _, _, h, _⟩ => by rw [h]; rfl) (by decide) fun cdv A outer s H E hr ds d h => ?_
  obtain ⟨on, off, holds, to, modes, hz, ht, rfl, rfl⟩ := h
  cases to with
  | none => exact sd_cons (ss_ret (EE.cast (ee_and (ee_call c1 hr (by decide) (ea_cons (ee_var 0 rfl) (ea_cons (ee_var 1 rfl) (ea_cons (ee_var 3 rfl) ea_nil))) ⟨on, off, holds, hz, rfl, rfl⟩) fun _ => ee_one' (ee_or (y := true) (ee_c2 cmp_isN (ee_var 2 rfl) ee_non) fun h => nomatch h)) rfl) rfl)
  | some x => exact sd_cons (ss_ret (EE.cast (ee_and (ee_call c1 hr (by decide) (ea_cons (ee_var 0 rfl) (ea_cons (ee_var 1 rfl) (ea_cons (ee_var 3 rfl) ea_nil))) ⟨on, off, holds, hz, rfl, rfl⟩) fun _ => ee_one' (ee_or (ee_c2 cmp_isN (ee_var 2 rfl) ee_non) fun _ => ee_one' (EE.cast (ee_c2 cmp_inL (ee_var 2 rfl) (ee_var 4 rfl)) (congrArg D.bl (decide_eq_true (ht x rfl)))))) rfl) rfl)
def eStep (s : Int × Str) : D := .tup [.int s.1, .str s.2]
def T_is_step (ds : List D) (d : D) : Prop := ∃ (s : Int × Str) (cs : List Str), 1 ≤ s.1 ∧ s.1 ≤ 9 ∧ s.2 ∈ cs ∧ ds = [eStep s, eStrs cs] ∧ d = .bl true
theorem c_is_step {f : Addr} {fd : FuncData} (F : C8.Def K mg "is_step" (top 20) f fd) (b : Binds K fd ["step", "commands"] []) (B : Bt mg) : C8.Cal P w K mg base 1 "is_step" (spP ⟨P, w, K⟩ T_is_step) [] := by
  have S : FnScope ["step", "commands"] ["step", "commands"] (C8.fnScope (top 20)) := C8.fnScope_by (by decide +kernel)
  refine calP T_is_step F b S (fun ds d ⟨_, _, _, _, _, h, _⟩ => by rw [h]; rfl) (by decide) fun cdv A outer s H E hr ds d h => ?_
  obtain ⟨st, cs, h1, h2, h3, rfl, rfl⟩ := h
  refine sd_cons (ss_ret (EE.cast (ee_and (ee_c2 cmp_eqI (ee_lenT B.len (ee_var 0 rfl)) ee_int) fun _ => ee_and (ee_chain ee_int (ee_ixT (i := 0) (ee_var 0 rfl) ee_int rfl) ee_int) fun _ => ee_one' (ee_c2 cmp_inL (ee_ixT (i := 1) (ee_var 0 rfl) ee_int rfl) (ee_var 1 rfl))) ?_) rfl)
  rw [decide_eq_true h1, decide_eq_true h2, decide_eq_true h3]
  rfl
def T_names_of (ds : List D) (d : D) : Prop := ∃ (α : Type) (xs : List α) (enc : α → D) (nm : α → Str), (∀ x ∈ xs, ∃ r, enc x = .tup (.str (nm x) :: r)) ∧ xs.length ≤ 1000 ∧ ds = [.lst (xs.map enc)] ∧ d = eStrs (xs.map nm)
theorem c_names_of {f : Addr} {fd : FuncData} (F : C8.Def K mg "names_of" (top 21) f fd) (b : Binds K fd ["parts"] []) : C8.Cal P w K mg base 1 "names_of" (spP ⟨P, w, K⟩ T_names_of) [] := by
  have S : FnScope ["parts", "part"] ["parts"] (C8.fnScope (top 21)) := C8.fnScope_by (by decide +kernel)
  refine calP T_names_of F b S (fun ds d ⟨_, _, _, _, _, _, h, _⟩ => by rw [h]; rfl) (by decide) fun cdv A outer s H E hr ds d h => ?_
  obtain ⟨α, xs, enc, nm, h1, h2, rfl, rfl⟩ := h
  refine sd_cons (ss_ret (EE.cast (EO.ee (eo_lc0 (own := [("part", 1)]) enc (fun x => .str (nm x)) (fun d => [(1, enc d)]) S.nd (blkOk_by (N := ["parts", "part"]) (sc := C8.fnScope (top 21)) (by decide +kernel)) (ei_lst (ee_var 0 rfl)) (by omega) (fun d hd s H C cl fp => gd_name 1 S.nd) (by simp) (fun d hd s H C cl fp => ?_))) ?_) rfl)
  · obtain ⟨r, hr'⟩ := h1 d hd
    exact ee_ixT (i := 0) (EE.cast (ee_var 1 rfl) hr') ee_int (atI_nat (j := 0) rfl)
  · unfold eStrs
    rw [List.map_map]
    rfl
end
end Fw
namespace Fw
open PySem PySem.Spec PyProof.Rows L2
/-! ### books and standings -/
structure Mode where
  nm : Str
  von : List Str
  voff : List Str
  deriving DecidableEq
structure Cmd where
  nm : Str
  ms : List Str
  von : List Str
  voff : List Str
  to : Option Str
  deriving DecidableEq
structure Alm where
  nm : Str
  von : List Str
  voff : List Str
  to : Option Str
  deriving DecidableEq
structure Row where
  nm : Str
  steps : List (Int × Str)
  deriving DecidableEq
structure Book where
  holds : List Str
  modes : List Mode
  barred : List (List Str)
  cmds : List Cmd
  alms : List Alm
  rows : List Row
  quiet : Option Int
  deriving DecidableEq
structure Stg where
  mode : Str
  lot : List Str
  row : Option Str
  place : Nat
  left : Int
  sil : Int
  deriving DecidableEq
inductive Ord where
  | stop | go (n : Str) | run (n : Str)
  deriving DecidableEq
structure Inp where
  alms : List Str
  ord : Option Ord
  deriving DecidableEq
def eMode (m : Mode) : D := .tup [.str m.nm, eLot m.von, eLot m.voff]
def eCmd (c : Cmd) : D := .tup [.str c.nm, eLot c.ms, eLot c.von, eLot c.voff, eOpt c.to]
def eAlm (a : Alm) : D := .tup [.str a.nm, eLot a.von, eLot a.voff, eOpt a.to]
def eRow (r : Row) : D := .tup [.str r.nm, .tup (r.steps.map eStep)]
def eOptI : Option Int → D
  | none => .non
  | some k => .int k
def eStg (s : Stg) : D := .tup [.str s.mode, eLot s.lot, eOpt s.row, .int s.place, .int s.left, .int s.sil]
def eOrd : Option Ord → D
  | none => .non
  | some .stop => .tup [.str "stop"]
  | some (.go n) => .tup [.str "do", .str n]
  | some (.run n) => .tup [.str "run", .str n]
def eInp (i : Inp) : D := .tup [eLot i.alms, eOrd i.ord]
/-! ### what the program computes -/
def setS (l : List Str) : List Str := sortS l.eraseDups
def turnedM (l on off : List Str) : List Str := setS ((l.filter fun h => !decide (h ∈ off)) ++ on)
structure TSt where
  s : Stg
  done : List Str
  refused : List Str
  mom : List (List Str)
def Book.mode? (b : Book) (x : Str) : Option Mode := b.modes.find? fun m => decide (m.nm = x)
def Book.cmd? (b : Book) (x : Str) : Option Cmd := b.cmds.find? fun m => decide (m.nm = x)
def Book.row? (b : Book) (x : Str) : Option Row := b.rows.find? fun m => decide (m.nm = x)
def lotM (b : Book) (l on off : List Str) (to : Option Str) : List Str :=
  match to.bind b.mode? with
  | none => turnedM l on off
  | some m => turnedM (turnedM l on off) m.von m.voff
def effM (b : Book) (t : TSt) (on off : List Str) (to : Option Str) : TSt :=
  { t with s := { t.s with mode := to.getD t.s.mode, lot := lotM b t.s.lot on off to }, mom := t.mom ++ [lotM b t.s.lot on off to] }
def haltM (t : TSt) : TSt := { t with s := { t.s with row := none, place := 0, left := 0 } }
def beginM (b : Book) (t : TSt) (r : Str) (p : Nat) : TSt :=
  match (b.row? r).bind fun w => w.steps[p]? with
  | none => haltM t
  | some st => { t with s := { t.s with row := some r, place := p, left := st.1 } }
def cmdM (b : Book) (t : TSt) (x : Str) : Bool × TSt :=
  match b.cmd? x with
  | none => (false, t)
  | some c => if t.s.mode ∈ c.ms then (true, { effM b t c.von c.voff c.to with done := t.done ++ [x] }) else (false, t)
def ans1 (b : Book) (alms : List Str) (t : TSt) (a : Alm) : TSt := if a.nm ∈ alms then haltM (effM b t a.von a.voff a.to) else t
def ansM (b : Book) (t : TSt) (alms : List Str) : TSt := b.alms.foldl (ans1 b alms) t
def obeyM (b : Book) (t : TSt) : Ord → Bool × TSt
  | .stop => (false, haltM { t with s := { t.s with sil := 0 } })
  | .go n =>
    match cmdM b { t with s := { t.s with sil := 0 } } n with
    | (true, t') => (false, t')
    | (false, t') => (false, { t' with refused := t'.refused ++ [n] })
  | .run n => (true, beginM b { t with s := { t.s with sil := 0 } } n 0)
def homeM (b : Book) : Str := (b.modes.head?.map Mode.nm).getD ""
def waitM (b : Book) (t : TSt) : TSt :=
  match b.quiet with
  | none => t
  | some q =>
    if t.s.sil + 1 = q then
      let t1 := haltM (effM b { t with s := { t.s with sil := t.s.sil + 1 } } [] [] (some (homeM b)))
      { t1 with s := { t1.s with sil := 0 } }
    else { t with s := { t.s with sil := t.s.sil + 1 } }
def goM (b : Book) (t : TSt) : TSt :=
  match t.s.row with
  | none => t
  | some r =>
    if t.s.left - 1 = 0 then
      match (b.row? r).bind fun w => w.steps[t.s.place]? with
      | none => t
      | some st => beginM b (cmdM b { t with s := { t.s with left := t.s.left - 1 } } st.2).2 r (t.s.place + 1)
    else { t with s := { t.s with left := t.s.left - 1 } }
def tickT (b : Book) (s : Stg) (i : Inp) : TSt :=
  let t := ansM b ⟨s, [], [], []⟩ i.alms
  match i.ord with
  | none => goM b (waitM b t)
  | some o =>
    match obeyM b t o with
    | (true, t') => t'
    | (false, t') => goM b t'
def tickM (b : Book) (s : Stg) (i : Inp) : Stg := (tickT b s i).s
def firstM (b : Book) : Stg :=
  match b.modes.head? with
  | none => ⟨"", [], none, 0, 0, 0⟩
  | some m => ⟨m.nm, sortS m.von, none, 0, 0, 0⟩
/-! ### valid books and standings -/
structure BOk (b : Book) : Prop where
  hn : ∀ z ∈ b.holds, IsNm z
  hf : b.holds.length ≤ 100
  m0 : b.modes ≠ []
  mn : (b.modes.map Mode.nm).Nodup
  mt : ∀ m ∈ b.modes, IsNm m.nm ∧ Turned m.von m.voff b.holds
  mf : b.modes.length ≤ 100
  cn : (b.cmds.map Cmd.nm).Nodup
  ct : ∀ c ∈ b.cmds, IsNm c.nm ∧ Turned c.von c.voff b.holds ∧ (∀ x, c.to = some x → x ∈ b.modes.map Mode.nm) ∧ c.ms.length ≤ 100
  cf : b.cmds.length ≤ 100
  an : (b.alms.map Alm.nm).Nodup
  al : ∀ a ∈ b.alms, IsNm a.nm ∧ Turned a.von a.voff b.holds ∧ ∀ x, a.to = some x → x ∈ b.modes.map Mode.nm
  af : b.alms.length ≤ 100
  rn : (b.rows.map Row.nm).Nodup
  rs : ∀ r ∈ b.rows, IsNm r.nm ∧ 0 < r.steps.length ∧ r.steps.length ≤ 100 ∧ ∀ s ∈ r.steps, 1 ≤ s.1 ∧ s.1 ≤ 9 ∧ s.2 ∈ b.cmds.map Cmd.nm
  rf : b.rows.length ≤ 100
  bt : ∀ l ∈ b.barred, LotOf l b.holds
  bf : b.barred.length ≤ 100
  q : ∀ k, b.quiet = some k → 1 ≤ k ∧ k ≤ 30
/-- what a standing is while a tick is done -/
structure SOk (b : Book) (s : Stg) : Prop where
  md : s.mode ∈ b.modes.map Mode.nm
  lt : LotOf s.lot b.holds
  rw0 : s.row = none → s.place = 0 ∧ s.left = 0
  rw1 : ∀ r, s.row = some r → ∃ w, b.row? r = some w ∧ s.place < w.steps.length
theorem mem_eraseDups {l : List Str} {x : Str} : x ∈ l.eraseDups ↔ x ∈ l := List.mem_eraseDups
theorem setS_mem {l : List Str} {x : Str} : x ∈ setS l ↔ x ∈ l := by
  unfold setS
  rw [(sortS_perm _).mem_iff, mem_eraseDups]
theorem nodup_eraseDups_n : ∀ (n : Nat) (l : List Str), l.length ≤ n → l.eraseDups.Nodup
  | _, [], _ => by rw [List.eraseDups_nil]; exact List.nodup_nil
  | 0, a :: as, h => by cases h
  | n + 1, a :: as, h => by
    rw [List.eraseDups_cons, List.nodup_cons]
    refine ⟨fun z => ?_, nodup_eraseDups_n n _ (Nat.le_trans (List.length_filter_le _ _) (by rw [List.length_cons] at h; omega))⟩
    rw [mem_eraseDups, List.mem_filter] at z
    simp at z
theorem nodup_eraseDups (l : List Str) : l.eraseDups.Nodup := nodup_eraseDups_n l.length l (Nat.le_refl _)
theorem sle_lt {x y : Str} (h : sle x y = true) (n : x ≠ y) : slt x y := by
  unfold sle at h
  simp only [Bool.not_eq_true', decide_eq_false_iff_not] at h
  rcases slt_tri x y with a | a | a
  · exact a
  · exact absurd a n
  · exact absurd a h
theorem sortS_asc {l : List Str} (nd : l.Nodup) : Asc (sortS l) := by
  have h1 := sortS_sorted l
  have h2 : (sortS l).Nodup := (sortS_perm l).nodup_iff.mpr nd
  unfold Asc
  have := List.pairwise_and_iff.mpr ⟨h1, h2⟩
  exact this.imp fun ⟨a, b⟩ => sle_lt a b
theorem setS_asc (l : List Str) : Asc (setS l) := sortS_asc (nodup_eraseDups l)
theorem Asc.nodup {l : List Str} (h : Asc l) : l.Nodup := h.imp fun {a b} (h : slt a b) (z : a = b) => slt_irrefl a (by rw [← z] at h; exact h)
theorem asc_uniq {l k : List Str} (h : Asc l) (g : Asc k) (e : ∀ x, x ∈ l ↔ x ∈ k) : l = k := by
  have p : l.Perm k := (List.perm_ext_iff_of_nodup h.nodup g.nodup).mpr e
  refine sorted_uniq p (h.imp fun {a b} q => ?_) (g.imp fun {a b} q => ?_)
  · unfold sle
    simp only [Bool.not_eq_true', decide_eq_false_iff_not]
    exact fun z => slt_irrefl _ (slt_trans q z)
  · unfold sle
    simp only [Bool.not_eq_true', decide_eq_false_iff_not]
    exact fun z => slt_irrefl _ (slt_trans q z)
theorem sub_len {l holds : List Str} (nd : l.Nodup) (h : ∀ x ∈ l, x ∈ holds) : l.length ≤ holds.length := nd.length_le_of_subset h
theorem turnedM_mem {l on off : List Str} {x : Str} : x ∈ turnedM l on off ↔ (x ∈ l ∧ x ∉ off) ∨ x ∈ on := by
  unfold turnedM
  rw [setS_mem, List.mem_append, List.mem_filter]
  simp
theorem turnedM_lot {l on off holds : List Str} (hn : ∀ z ∈ holds, IsNm z) (hf : holds.length ≤ 100) (hl : LotOf l holds) (ht : Turned on off holds) : LotOf (turnedM l on off) holds := by
  have sub : ∀ z ∈ turnedM l on off, z ∈ holds := fun z hz => by
    rcases turnedM_mem.mp hz with h | h
    · exact hl.sub z h.1
    · exact ht.von.sub z h
  have asc : Asc (turnedM l on off) := setS_asc _
  exact ⟨⟨fun z hz => hn z (sub z hz), asc, Nat.le_trans (sub_len asc.nodup sub) hf⟩, sub⟩
theorem mode?_some {b : Book} {x : Str} {m : Mode} (h : b.mode? x = some m) : m ∈ b.modes ∧ m.nm = x := by
  unfold Book.mode? at h
  exact ⟨List.mem_of_find?_eq_some h, by simpa using List.find?_some h⟩
theorem mode?_of {b : Book} {x : Str} (h : x ∈ b.modes.map Mode.nm) : ∃ m, b.mode? x = some m := by
  obtain ⟨m, hm, rfl⟩ := List.mem_map.mp h
  unfold Book.mode?
  cases e : b.modes.find? (fun n => decide (n.nm = m.nm)) with
  | some n => exact ⟨n, rfl⟩
  | none =>
    have := List.find?_eq_none.mp e m hm
    simp at this
theorem cmd?_some {b : Book} {x : Str} {m : Cmd} (h : b.cmd? x = some m) : m ∈ b.cmds ∧ m.nm = x := by
  unfold Book.cmd? at h
  exact ⟨List.mem_of_find?_eq_some h, by simpa using List.find?_some h⟩
theorem cmd?_of {b : Book} {x : Str} (h : x ∈ b.cmds.map Cmd.nm) : ∃ m, b.cmd? x = some m := by
  obtain ⟨m, hm, rfl⟩ := List.mem_map.mp h
  unfold Book.cmd?
  cases e : b.cmds.find? (fun n => decide (n.nm = m.nm)) with
  | some n => exact ⟨n, rfl⟩
  | none =>
    have := List.find?_eq_none.mp e m hm
    simp at this
theorem row?_some {b : Book} {x : Str} {m : Row} (h : b.row? x = some m) : m ∈ b.rows ∧ m.nm = x := by
  unfold Book.row? at h
  exact ⟨List.mem_of_find?_eq_some h, by simpa using List.find?_some h⟩
theorem row?_of {b : Book} {x : Str} (h : x ∈ b.rows.map Row.nm) : ∃ m, b.row? x = some m := by
  obtain ⟨m, hm, rfl⟩ := List.mem_map.mp h
  unfold Book.row?
  cases e : b.rows.find? (fun n => decide (n.nm = m.nm)) with
  | some n => exact ⟨n, rfl⟩
  | none =>
    have := List.find?_eq_none.mp e m hm
    simp at this
theorem lotM_lot {b : Book} (hb : BOk b) {l on off : List Str} {to : Option Str} (hl : LotOf l b.holds) (ht : Turned on off b.holds) : LotOf (lotM b l on off to) b.holds := by
  unfold lotM
  have h1 := turnedM_lot hb.hn hb.hf hl ht
  split
  · exact h1
  · rename_i m e
    rw [Option.bind_eq_some_iff] at e
    obtain ⟨x, _, e⟩ := e
    exact turnedM_lot hb.hn hb.hf h1 (hb.mt m (mode?_some e).1).2
theorem effM_ok {b : Book} (hb : BOk b) {t : TSt} {on off : List Str} {to : Option Str} (h : SOk b t.s) (ht : Turned on off b.holds) (hto : ∀ x, to = some x → x ∈ b.modes.map Mode.nm) : SOk b (effM b t on off to).s where
  md := by
    cases to with
    | none => exact h.md
    | some x => exact hto x rfl
  lt := lotM_lot hb h.lt ht
  rw0 := h.rw0
  rw1 := h.rw1
theorem haltM_ok {b : Book} {t : TSt} (h : SOk b t.s) : SOk b (haltM t).s := ⟨h.md, h.lt, fun _ => ⟨rfl, rfl⟩, fun _ h => by cases h⟩
theorem beginM_ok {b : Book} {t : TSt} (h : SOk b t.s) (r : Str) (p : Nat) : SOk b (beginM b t r p).s := by
  unfold beginM
  split
  · exact haltM_ok h
  · rename_i st e
    rw [Option.bind_eq_some_iff] at e
    obtain ⟨w, e1, e2⟩ := e
    refine ⟨h.md, h.lt, (fun h => by cases h), fun r' h => ?_⟩
    cases h
    exact ⟨w, e1, (List.getElem?_eq_some_iff.mp e2).1⟩
theorem cmdM_ok {b : Book} (hb : BOk b) {t : TSt} (h : SOk b t.s) (x : Str) : SOk b (cmdM b t x).2.s := by
  unfold cmdM
  split
  · exact h
  · rename_i c e
    split
    · obtain ⟨_, h1, h2, _⟩ := hb.ct c (cmd?_some e).1
      have := effM_ok hb h h1 h2
      exact ⟨this.md, this.lt, this.rw0, this.rw1⟩
    · exact h
theorem ans1_ok {b : Book} (hb : BOk b) {t : TSt} (h : SOk b t.s) (alms : List Str) {a : Alm} (ha : a ∈ b.alms) : SOk b (ans1 b alms t a).s := by
  unfold ans1
  split
  · obtain ⟨_, h1, h2⟩ := hb.al a ha
    exact haltM_ok (effM_ok hb h h1 h2)
  · exact h
theorem home_mem {b : Book} (hb : BOk b) : homeM b ∈ b.modes.map Mode.nm := by
  unfold homeM
  cases e : b.modes with
  | nil => exact absurd e hb.m0
  | cons m r => simp
end Fw
namespace Fw
open PySem PySem.Spec PyProof.Rows L2 PySem.W
theorem IsNm.ok {z : Str} (h : IsNm z) : PyData.strOk z = true := by
  unfold PyData.strOk
  rw [← Array.all_toList, List.all_eq_true]
  intro c hc
  have := h.al c hc
  have e : ∀ c ∈ lettersS.cps.toList, decide (c < 0x110000) = true := by decide +kernel
  exact e c this
section
variable {X : Cx} {ss : List Slot} {e : Expr} {pos p p2 q : Pos}
/-- sorted(set(e)) of texts -/
theorem eo_sortSetS {xs : List Str} (hm : X.mg "sorted" = none) (hm2 : X.mg "set" = none) (hu : X.A.units + 64 < cLine) (ha : EE X ss e (.lst (xs.map .str))) (hx : ∀ x ∈ xs, PyData.strOk x = true) (hl : xs.length ≤ 1000) (hc : X.calm = true := by rfl) (hg : Gl X "sorted" := by rfl) (hg2 : Gl X "set" := by rfl) (he : starEach [e] X.env = (false, eval e X.env) :: starEach [] X.env := by first | kernel_rfl! | rfl) (he2 : starEach [.Call (.Name "set" p2) [e] [] q] X.env = (false, eval (.Call (.Name "set" p2) [e] [] q) X.env) :: starEach [] X.env := by first | kernel_rfl! | rfl) (hpl : (backTo q (starEach [] X.env)).any (·.1) = false := by first | kernel_rfl! | rfl) (hpl2 : (backTo pos (starEach [] X.env)).any (·.1) = false := by first | kernel_rfl! | rfl) : EO X ss (.Call (.Name "sorted" p) [.Call (.Name "set" p2) [e] [] q] [] pos) ((setS xs).map .str) :=
  eo_sortSet hm hm2 hu ha hl hc hg hg2 he he2 hpl hpl2 (nodup_eraseDups xs) fun z => mem_eraseDups
/-- sorted(e) of a tuple of texts -/
theorem eo_sortT {xs : List Str} (hm : X.mg "sorted" = none) (hu : X.A.units + 64 < cLine) (ha : EE X ss e (eLot xs)) (hx : ∀ x ∈ xs, PyData.strOk x = true) (hl : xs.length ≤ 1000) (hc : X.calm = true := by rfl) (hg : Gl X "sorted" := by rfl) (he : starEach [e] X.env = (false, eval e X.env) :: starEach [] X.env := by first | kernel_rfl! | rfl) (hpl : (backTo pos (starEach [] X.env)).any (·.1) = false := by first | kernel_rfl! | rfl) : EO X ss (.Call (.Name "sorted" p) [e] [] pos) ((sortS xs).map .str) := eo_sortTS hm hu ha hl hg he hpl
end
end Fw
namespace Fw
open PySem PySem.Spec PyProof.Rows L2 PySem.W
def sortL (l : List (List Str)) : List (List Str) := l.mergeSort fun a b => leD (eLot a) (eLot b)
theorem sortL_perm (l : List (List Str)) : (sortL l).Perm l := List.mergeSort_perm l _
theorem alike_strs : ∀ xs ys : List Str, alikeAll (xs.map .str) (ys.map .str) = true
  | [], _ => by simp [alikeAll]
  | _ :: _, [] => by simp [alikeAll]
  | x :: xs, y :: ys => by
    have := alike_strs xs ys
    simp only [List.map_cons, alikeAll, this]
    simp [alike]
theorem lot_py (l : List Str) : (eLot l).py = .tuple (l.map .str) := by
  unfold eLot
  rw [D.py, D.pys_map, List.map_map]
  rfl
section
variable {X : Cx} {ss : List Slot} {e : Expr} {pos p p2 q : Pos}
/-- sorted(e) of lots, none empty -/
theorem eo_sortLots {xs : List (List Str)} (hm : X.mg "sorted" = none) (hu : X.A.units + 64 < cLine) (ha : EE X ss e (.lst (xs.map eLot))) (hx : ∀ l ∈ xs, (∀ z ∈ l, PyData.strOk z = true) ∧ l ≠ []) (hg : Gl X "sorted" := by rfl) (he : starEach [e] X.env = (false, eval e X.env) :: starEach [] X.env := by rfl) (hpl : (backTo pos (starEach [] X.env)).any (·.1) = false := by rfl) :
    EO X ss (.Call (.Name "sorted" p) [e] [] pos) ((sortL xs).map eLot) :=
  (eo_sortD (n := 1) hm hu ha (by
    rw [D.oks_all, List.all_eq_true]
    intro d hd
    obtain ⟨l, h, rfl⟩ := List.mem_map.mp hd
    show D.oks 0 (l.map .str) = true
    rw [D.oks_all, List.all_eq_true]
    intro d hd
    obtain ⟨z, hz, rfl⟩ := List.mem_map.mp hd
    exact (hx l h).1 z hz) (by decide) (by
    rw [List.map_map]
    exact AllAlike.of fun a b => by
      show alike (eLot a).py (eLot b).py = true
      rw [lot_py, lot_py]
      exact alike_strs a b) (.inl (by
    intro d hd
    rw [List.map_map] at hd
    obtain ⟨l, h, rfl⟩ := List.mem_map.mp hd
    show ∃ x r, (eLot l).py = .tuple (x :: r)
    rw [lot_py]
    cases l with
    | nil => exact absurd rfl (hx [] h).2
    | cons z r => exact ⟨_, _, rfl⟩)) hg he hpl).cast (by
    unfold sortL
    rw [List.map_mergeSort (s := leD)]
    intro a _ b _
    rfl)
theorem risingS_pw : ∀ {l : List Str} {p : Str}, risingS p l = true → (∀ x ∈ l, sle p x = true) ∧ l.Pairwise fun a b => sle a b = true
  | [], _, _ => ⟨fun _ h => (by cases h), .nil⟩
  | x :: r, p, h => by
    unfold risingS at h
    rw [Bool.and_eq_true, ltCps_eq] at h
    obtain ⟨h1, h2⟩ := h
    obtain ⟨g1, g2⟩ := risingS_pw h2
    have h1 : sle p x = true := h1
    refine ⟨fun y hy => ?_, .cons (fun y hy => g1 y hy) g2⟩
    rcases List.mem_cons.mp hy with rfl | hy
    · exact h1
    · exact sle_trans p x y h1 (g1 y hy)
theorem sortedS_pw : ∀ {l : List Str}, sortedS l = true → l.Pairwise fun a b => sle a b = true
  | [], _ => .nil
  | x :: r, h => .cons (risingS_pw h).1 (risingS_pw h).2
/-- sorted(d), d a dict of texts -/
theorem eo_sortDk {ks : List Str} {vs : List D} (hm : X.mg "sorted" = none) (ha : EE X ss e (.dk (ks.map .inr) vs)) (hl : ks.length < 64) (hc : X.calm = true := by rfl) (hg : Gl X "sorted" := by rfl) (he : starEach [e] X.env = (false, eval e X.env) :: starEach [] X.env := by rfl) (hpl : (backTo pos (starEach [] X.env)).any (·.1) = false := by rfl) :
    EO X ss (.Call (.Name "sorted" p) [e] [] pos) ((sortS ks).map .str) :=
  eo_B (call_sortedD hc) hm (by decide +kernel) (ea_cons ha ea_nil he) (fun G H xs i r Q k => by
    cases r with
    | cons r t =>
      cases t
      cases r with
      | dk z e r =>
        refine ⟨_, _, ks, rfl, .inl (i _ _ z), e, hl, fun ys p hp hs hn => ?_⟩
        have ey : ys = sortS ks := sorted_uniq (hp.trans (sortS_perm ks).symm) (sortedS_pw hs) (sortS_sorted ks)
        rw [ey]
        exact GivO.new k i hn (RpA.of_strs _)) hg (by decide) (by decide) he hpl
end
end Fw
namespace Fw
open PySem PySem.Spec PyProof.Rows L2
/-! ### itertools.combinations: facts -/
abbrev cbT : String := "itertools.combinations"
theorem cb_slot_next : PySem.Slot "itertools.combinations" "__next__" "itertools.combinations.__next__" := .of (owner := "itertools.combinations") (n := "__next__") (by rw [typeLookup_type, builtinLookup_eq_fast]; kernel_rfl) (by decide +kernel) (by decide +kernel) (by decide +kernel) (by first | exact .inl (by decide +kernel) | exact .inr (by decide +kernel)) (by rw [isSubtype_type]; kernel_rfl)
theorem cb_slot_iter : PySem.Slot "itertools.combinations" "__iter__" "itertools.combinations.__iter__" := .of (owner := "itertools.combinations") (n := "__iter__") (by rw [typeLookup_type, builtinLookup_eq_fast]; kernel_rfl) (by decide +kernel) (by decide +kernel) (by decide +kernel) (by first | exact .inl (by decide +kernel) | exact .inr (by decide +kernel)) (by rw [isSubtype_type]; kernel_rfl)
theorem cb_slot_init : PySem.Slot "itertools.combinations" "__init__" "object.__init__" := .of (owner := "object") (n := "__init__") (by rw [typeLookup_type, builtinLookup_eq_fast]; kernel_rfl) (by decide +kernel) (by decide +kernel) (by decide +kernel) (by first | exact .inl (by decide +kernel) | exact .inr (by decide +kernel)) (by rw [isSubtype_type]; kernel_rfl)
theorem cb_entry_next : entryFor table "itertools.combinations.__next__" = some Builtin.«itertools.combinations.__next__» := entryFor_of_tree (by kernel_rfl)
theorem cb_entry_new : entryFor table "itertools.combinations.__new__" = some Builtin.«itertools.combinations.__new__» := entryFor_of_tree (by kernel_rfl)
theorem cb_args_next (a : Value) : argsOk "itertools.combinations.__next__" ⟨[a], []⟩ := by unfold argsOk; kernel_rfl
theorem cb_args_iter (a : Value) : argsOk "itertools.combinations.__iter__" ⟨[a], []⟩ := by unfold argsOk; kernel_rfl
theorem cb_mro : mroOf (.type "itertools.combinations") = pure [.type "itertools.combinations", .type "object"] := by rw [mroOf_type]; kernel_rfl
theorem cb_lookup_new : typeLookup (.type "itertools.combinations") "__new__" = pure (some (.builtin "itertools.combinations.__new__")) := by rw [typeLookup_type, builtinLookup_eq_fast]; kernel_rfl
theorem cb_sub : isSubtype (.type "itertools.combinations") (.type "itertools.combinations") = pure true := by rw [isSubtype_type]; kernel_rfl
theorem cb_called : TypeCalled "itertools.combinations" "itertools.combinations.__new__" "object.__init__" := ⟨by decide +kernel, by decide +kernel, ⟨_, _, cb_mro⟩, madeBy_type cb_mro cb_lookup_new (by decide +kernel), by decide +kernel, cb_sub, cb_slot_init⟩
theorem cb_typeCall (a b : Value) : checkTypeCall "itertools.combinations" ⟨[a, b], []⟩ = pure () := by kernel_rfl
theorem cb_newCall (a b : Value) : checkBuiltinCall "itertools.combinations.__new__" ⟨[.type "itertools.combinations", a, b], []⟩ = pure () := by kernel_rfl
theorem cb_nolen : typeLookup (.type "itertools.combinations") "__len__" = pure none := by rw [typeLookup_type, builtinLookup_eq_fast]; kernel_rfl
theorem cb_nohint : typeLookup (.type "itertools.combinations") "__length_hint__" = pure none := by rw [typeLookup_type, builtinLookup_eq_fast]; kernel_rfl
theorem cb_bind (x r : Value) : Builtin.Itertools.itBindNamed "combinations" ["iterable", "r"] 2 2 [x, r] [] = pure [some x, some r] := by kernel_rfl
theorem cb_entry_iter : entryFor table "itertools.combinations.__iter__" = some Builtin.«dict_keyiterator.__iter__» := entryFor_alias (id' := "dict_keyiterator.__iter__") (by kernel_rfl) (by first | rfl | decide +kernel | (unfold String.splitOn; simp +decide [String.splitOnAux])) (by decide +kernel) (by kernel_rfl)
end Fw
namespace Fw
open PySem PySem.Spec PyProof.Rows L2
open Builtin.Itertools
def cbL (pool : Addr) (st : Int) (res : Value) (idx : List Nat) : List Value := [.ref pool, .int st 0, res] ++ idx.map fun n : Nat => rawInt n
def cbObj (pool : Addr) (st : Int) (res : Value) (idx : List Nat) : Obj := { cls := .type "itertools.combinations", data := .fields (cbL pool st res idx).toArray }
def tupO (vs : List Value) : Obj := { cls := .type "tuple", data := .seq vs.toArray }
/-- the next places -/
def nxtC (n : Nat) (indices : List Nat) : Option (List Nat) :=
  let r := indices.length
  match (List.range r).reverse.find? fun i => indices.getD i 0 != i + n - r with
  | none => none
  | some i => some (indices.take i ++ (List.range (r - i)).map (indices.getD i 0 + 1 + ·))
theorem cb_nums : ∀ idx : List Nat, ((idx.map fun n : Nat => rawInt n).map fun (v : Value) => match v with | .int n _ => n.toNat | _ => 0) = idx
  | [] => rfl
  | n :: idx => by rw [List.map_cons, List.map_cons, cb_nums idx]; rfl
theorem cb_set1 (pool : Addr) (st : Int) (res : Value) (idx : List Nat) (k : Int) : Obj.mapFields (·.setIfInBounds 1 (rawInt k)) (cbObj pool st res idx) = cbObj pool k res idx := by
  unfold cbObj Obj.mapFields
  simp only [List.setIfInBounds_toArray]
  rfl
theorem cb_set2 (pool : Addr) (st : Int) (res x : Value) (idx : List Nat) : Obj.mapFields (·.setIfInBounds 2 x) (cbObj pool st res idx) = cbObj pool st x idx := by
  unfold cbObj Obj.mapFields
  simp only [List.setIfInBounds_toArray]
  rfl
theorem cb_set3 (pool : Addr) (st : Int) (res : Value) (idx nx : List Nat) : Obj.mapFields (fun fs => fs.extract 0 3 ++ (nx.map fun n : Nat => rawInt n).toArray) (cbObj pool st res idx) = cbObj pool st res nx := by
  unfold cbObj Obj.mapFields
  simp only [List.extract_toArray, List.append_toArray]
  rfl
section
variable {P : Program} {w : World} {A : Around} {E : Value → Shared → Prop} {s : Shared} {I pool : Addr} {items : List Value} {res : Value} {idx : List Nat} {st : Int}
theorem cb_numsAt {Q : List Nat → Shared → Prop} (hI : s.heap.get? I = some (cbObj pool st res idx)) (h : Q idx s) : wpAny (model P w) A (itNumbersFrom (.ref I) 3) Q E s := by
  unfold itNumbersFrom
  refine wpAny_bind (wpAny_load hI ?_)
  show wpAny _ _ (pure (((cbL pool st res idx).toArray.toList.drop 3).map fun (v : Value) => match v with | .int n _ => n.toNat | _ => 0)) _ _ _
  have e : (cbL pool st res idx).toArray.toList.drop 3 = idx.map fun n : Nat => rawInt n := by
    rw [List.toList_toArray]
    rfl
  rw [e, cb_nums]
  exact wpAny_pure h
theorem cb_stAt {Q : Int → Shared → Prop} (hI : s.heap.get? I = some (cbObj pool st res idx)) (h : Q st s) : wpAny (model P w) A (itIntField (.ref I) 1) Q E s := by
  unfold itIntField
  refine wpAny_bind (wpAny_field hI rfl (x := .int st 0) (by simp [cbL]) ?_)
  exact wpAny_pure h
theorem cb_poolAt {Q : Array Value → Shared → Prop} (hp : s.heap.get? pool = some (tupO items)) (h : Q items.toArray s) : wpAny (model P w) A (itPoolItems (.ref pool)) Q E s := by
  unfold itPoolItems
  refine wpAny_bind (wpAny_seqItems hp rfl ?_)
  exact wpAny_pure h
theorem getD_arr (items : List Value) (i : Nat) : items.toArray.getD i .none = items.getD i .none := by
  rw [List.getD_eq_getElem?_getD, Array.getD_eq_getD_getElem?, List.getElem?_toArray]
/-- the hand-out at places idx -/
theorem cb_hand {Q : PySem.Fin → Shared → Prop} (hI : s.heap.get? I = some (cbObj pool st res idx)) (hp : s.heap.get? pool = some (tupO items)) {nx : List Nat} (few : nx.length ≤ 100)
    (h : ∀ hp' : Heap, hp'.get? I = some (cbObj pool st (.ref s.heap.objs.size) idx) → hp'.get? s.heap.objs.size = some (tupO (nx.map fun i => items.getD i .none)) → (∀ b o, b ≠ I → s.heap.get? b = some o → hp'.get? b = some o) → Q (.done (.ret (.ref s.heap.objs.size))) { s with heap := hp' }) :
    wpAny (model P w) A ((itPoolItems (.ref pool) >>= fun its => newTuple (nx.map fun i => its.getD i .none)) >>= fun result => field (.ref I) 2 >>= fun before => setField (.ref I) 2 result >>= fun _ => letGo [before] [result] >>= fun _ => ret result) Q E s := by
  refine wpAny_bind (wpAny_bind (cb_poolAt hp ?_))
  have e : (nx.map fun i => items.toArray.getD i .none) = nx.map fun i => items.getD i .none := List.map_congr_left fun i _ => getD_arr items i
  rw [e]
  refine wpAny_newTuple ?_ (by rw [List.length_map]; exact Nat.le_trans few (by decide))
  have ltI : I < s.heap.objs.size := Heap.lt_size hI
  have h1 : (s.heap.push (tupO (nx.map fun i => items.getD i .none))).get? I = some (cbObj pool st res idx) := Heap.get?_push_of_some _ hI
  have h2 : (s.heap.push (tupO (nx.map fun i => items.getD i .none))).get? s.heap.objs.size = some (tupO (nx.map fun i => items.getD i .none)) := Heap.get?_push_size _ rfl
  refine wpAny_bind (wpAny_field h1 rfl (x := res) (by simp [cbL]) (wpAny_bind (wpAny_setField h1 rfl (by simp [cbL]) (wpAny_bind (wpAny_letGo ?_)))))
  refine wpAny_pure (h _ ?_ ?_ fun b o hb ho => ?_)
  · rw [← cb_set2 pool st res (.ref s.heap.objs.size) idx]
    exact Heap.get?_update_self _ h1 rfl
  · exact (Heap.get?_update_ne _ _ _ _ (Ne.symm (Nat.ne_of_lt ltI))).trans h2
  · exact (Heap.get?_update_ne _ _ _ _ hb).trans (Heap.get?_push_of_some _ ho)
/-- what is handed out at places idx -/
theorem cb_first {Q : Option Value → Shared → Prop} (hI : s.heap.get? I = some (cbObj pool 0 res idx)) (hp : s.heap.get? pool = some (tupO items)) (hne : pool ≠ I) (few : idx.length ≤ 100)
    (h : ∀ hp' : Heap, hp'.get? I = some (cbObj pool 1 (.ref s.heap.objs.size) idx) → hp'.get? s.heap.objs.size = some (tupO (idx.map fun i => items.getD i .none)) → (∀ b o, b ≠ I → s.heap.get? b = some o → hp'.get? b = some o) → Q (some (.ref s.heap.objs.size)) { s with heap := hp' }) :
    wpAny (model P w) A (pyNext (.ref I)) Q E s := by
  have hT : s.TypeIs (.ref I) "itertools.combinations" := ⟨_, hI, rfl⟩
  unfold pyNext
  refine wpAny_bind (wpAny_attempt (wpAny_callSpecial?_slot (name := Str.ofString "__next__") hT cb_slot_next (wpAny_call_entry cb_slot_next hT cb_entry_next ?_ (cb_args_next _))))
  show wpAny _ _ (field (.ref I) 0 >>= _) _ _ _
  refine wpAny_bind (wpAny_field hI rfl (x := .ref pool) (by simp [cbL]) ?_)
  refine wpAny_bind (m := itNumbersFrom (.ref I) 3) (cb_numsAt hI ?_)
  refine wpAny_bind (m := itIntField (.ref I) 1) (cb_stAt hI ?_)
  show wpAny _ _ (setField (.ref I) 1 (rawInt 1) >>= _) _ _ _
  refine wpAny_bind (wpAny_setField hI rfl (by simp [cbL]) ?_)
  have h1 : (s.heap.update I (Obj.mapFields (·.setIfInBounds 1 (rawInt 1)))).get? I = some (cbObj pool 1 res idx) := by
    rw [← cb_set1 pool 0 res idx 1]
    exact Heap.get?_update_self _ hI rfl
  have p1 : (s.heap.update I (Obj.mapFields (·.setIfInBounds 1 (rawInt 1)))).get? pool = some (tupO items) := (Heap.get?_update_ne _ _ _ _ hne).trans hp
  generalize hh : s.heap.update I (Obj.mapFields (·.setIfInBounds 1 (rawInt 1))) = g1 at h1 p1 ⊢
  have sz : g1.objs.size = s.heap.objs.size := by rw [← hh, Heap.size_update]
  have old : ∀ b o, b ≠ I → s.heap.get? b = some o → g1.get? b = some o := fun b o hb ho => by
    rw [← hh]
    exact (Heap.get?_update_ne _ _ _ _ hb).trans ho
  refine cb_hand (s := { s with heap := g1 }) h1 p1 few fun hp' k1 k2 k3 => ⟨_, rfl, ?_⟩
  have k1 : hp'.get? I = some (cbObj pool 1 (.ref g1.objs.size) idx) := k1
  have k2 : hp'.get? g1.objs.size = some (tupO (idx.map fun i => items.getD i .none)) := k2
  rw [sz] at k1 k2
  show wpAny _ _ (pure (some (Value.ref g1.objs.size))) _ _ _
  rw [sz]
  exact wpAny_pure (h hp' k1 k2 fun b o hb ho => k3 b o hb (old b o hb ho))
/-- the next hand-out -/
theorem cb_second {Q : Option Value → Shared → Prop} {nx : List Nat} (hI : s.heap.get? I = some (cbObj pool 1 res idx)) (hp : s.heap.get? pool = some (tupO items)) (hne : pool ≠ I) (few : nx.length ≤ 100) (hn : nxtC items.toArray.size idx = some nx)
    (h : ∀ hp' : Heap, hp'.get? I = some (cbObj pool 1 (.ref s.heap.objs.size) nx) → hp'.get? s.heap.objs.size = some (tupO (nx.map fun i => items.getD i .none)) → (∀ b o, b ≠ I → s.heap.get? b = some o → hp'.get? b = some o) → Q (some (.ref s.heap.objs.size)) { s with heap := hp' }) :
    wpAny (model P w) A (pyNext (.ref I)) Q E s := by
  have hT : s.TypeIs (.ref I) "itertools.combinations" := ⟨_, hI, rfl⟩
  unfold pyNext
  refine wpAny_bind (wpAny_attempt (wpAny_callSpecial?_slot (name := Str.ofString "__next__") hT cb_slot_next (wpAny_call_entry cb_slot_next hT cb_entry_next ?_ (cb_args_next _))))
  show wpAny _ _ (field (.ref I) 0 >>= _) _ _ _
  refine wpAny_bind (wpAny_field hI rfl (x := .ref pool) (by simp [cbL]) ?_)
  refine wpAny_bind (m := itNumbersFrom (.ref I) 3) (cb_numsAt hI ?_)
  refine wpAny_bind (m := itIntField (.ref I) 1) (cb_stAt hI ?_)
  show wpAny _ _ (itPoolItems (.ref pool) >>= fun its => match nxtC its.size idx with
    | some next => itSetNumbersFrom (.ref I) 3 next >>= fun _ => _
    | none => _) _ _ _
  refine wpAny_bind (cb_poolAt hp ?_)
  rw [hn]
  refine wpAny_bind (m := itSetNumbersFrom (.ref I) 3 nx) ?_
  unfold itSetNumbersFrom
  refine wpAny_updateFields hI rfl ?_ (by simp [cbL]; exact Nat.le_trans few (by decide))
  have h1 : (s.heap.update I (Obj.mapFields fun fs => fs.extract 0 3 ++ (nx.map fun n : Nat => rawInt n).toArray)).get? I = some (cbObj pool 1 res nx) := by
    rw [← cb_set3 pool 1 res idx nx]
    exact Heap.get?_update_self _ hI rfl
  have p1 : (s.heap.update I (Obj.mapFields fun fs => fs.extract 0 3 ++ (nx.map fun n : Nat => rawInt n).toArray)).get? pool = some (tupO items) := (Heap.get?_update_ne _ _ _ _ hne).trans hp
  generalize hh : s.heap.update I (Obj.mapFields fun fs => fs.extract 0 3 ++ (nx.map fun n : Nat => rawInt n).toArray) = g1 at h1 p1 ⊢
  have sz : g1.objs.size = s.heap.objs.size := by rw [← hh, Heap.size_update]
  have old : ∀ b o, b ≠ I → s.heap.get? b = some o → g1.get? b = some o := fun b o hb ho => by
    rw [← hh]
    exact (Heap.get?_update_ne _ _ _ _ hb).trans ho
  refine cb_hand (s := { s with heap := g1 }) h1 p1 few fun hp' k1 k2 k3 => ⟨_, rfl, ?_⟩
  have k1 : hp'.get? I = some (cbObj pool 1 (.ref g1.objs.size) nx) := k1
  have k2 : hp'.get? g1.objs.size = some (tupO (nx.map fun i => items.getD i .none)) := k2
  rw [sz] at k1 k2
  show wpAny _ _ (pure (some (Value.ref g1.objs.size))) _ _ _
  rw [sz]
  exact wpAny_pure (h hp' k1 k2 fun b o hb ho => k3 b o hb (old b o hb ho))
/-- the end -/
theorem cb_end {Q : Option Value → Shared → Prop} (calm : A.handled = none) (hI : s.heap.get? I = some (cbObj pool 1 res idx)) (hp : s.heap.get? pool = some (tupO items)) (hn : nxtC items.toArray.size idx = none)
    (h : ∀ hp' : Heap, (∀ b o, b ≠ I → s.heap.get? b = some o → hp'.get? b = some o) → s.heap.objs.size ≤ hp'.objs.size → Q none { s with heap := hp' }) :
    wpAny (model P w) A (pyNext (.ref I)) Q E s := by
  have hT : s.TypeIs (.ref I) "itertools.combinations" := ⟨_, hI, rfl⟩
  unfold pyNext
  refine wpAny_bind (wpAny_attempt (wpAny_callSpecial?_slot (name := Str.ofString "__next__") hT cb_slot_next (wpAny_call_entry cb_slot_next hT cb_entry_next ?_ (cb_args_next _))))
  show wpAny _ _ (field (.ref I) 0 >>= _) _ _ _
  refine wpAny_bind (wpAny_field hI rfl (x := .ref pool) (by simp [cbL]) ?_)
  refine wpAny_bind (m := itNumbersFrom (.ref I) 3) (cb_numsAt hI ?_)
  refine wpAny_bind (m := itIntField (.ref I) 1) (cb_stAt hI ?_)
  show wpAny _ _ (itPoolItems (.ref pool) >>= fun its => match nxtC its.size idx with
    | some next => _
    | none => setField (.ref I) 1 (rawInt 2) >>= fun _ => itStop) _ _ _
  refine wpAny_bind (cb_poolAt hp ?_)
  rw [hn]
  refine wpAny_bind (m := setField (.ref I) 1 (rawInt 2)) (wpAny_setField hI rfl (by simp [cbL]) ?_)
  have old : ∀ b o, b ≠ I → s.heap.get? b = some o → (s.heap.update I (Obj.mapFields (·.setIfInBounds 1 (rawInt 2)))).get? b = some o := fun b o hb ho => (Heap.get?_update_ne _ _ _ _ hb).trans ho
  unfold itStop
  refine wpAny_bind (m := newExc (.type "StopIteration") []) ?_
  simp only [newExc, newTuple]
  refine wpAny_bind (wpAny_newObj_type ?_ (by size_fits))
  refine wpAny_bind (m := firstArgMember _ _) (wpAny_of_eq (a := Value.none) (by first | rfl | (simp only [firstArgMember]; rfl)) ?_)
  refine wpAny_newObj_type ?_ (by size_fits)
  simp only [raiseNew]
  refine wpAny_bind (wpAny_handled ?_)
  have calm1 : A.in1.handled = none := calm
  rw [calm1]
  refine wpAny_bind (wpAny_pure (wpAny_throw ?_))
  refine wpAny_bind (wpAny_isInstance (T := "StopIteration") (b := true) ⟨_, Heap.get?_push_size _ rfl, rfl⟩ isSubtype_stop ?_)
  refine wpAny_pure (h _ (fun b o hb ho => Heap.get?_push_of_some _ (Heap.get?_push_of_some _ (old b o hb ho))) ?_)
  rw [Heap.size_push, Heap.size_push, Heap.size_update]
  exact Nat.le_add_right _ 2
end
end Fw
namespace Fw
open PySem PySem.Spec PyProof.Rows L2
open Builtin.Itertools
theorem cb_class (a b : Value) : itClassAndRest "combinations" ⟨[.type "itertools.combinations", a, b], []⟩ = pure (.type "itertools.combinations", [a, b]) := by
  unfold itClassAndRest
  simp only [isType, pure_bind, Bool.not_true, Bool.false_eq_true, if_false]
  show (isSubtype (.type "itertools.combinations") (.type "itertools.combinations") >>= _) = _
  rw [cb_sub]
  rfl
section
variable {P : Program} {w : World} {A : Around} {E : Value → Shared → Prop} {s : Shared}
abbrev cbH (h : Heap) (items : List Value) (m : Nat) : Heap := (h.push (tupO items)).push (cbObj h.objs.size 0 .none (List.range m))
theorem cb_new {l : Addr} {m : Nat} {t : Tok} (hm : m ≤ 100) : MeetsIn P w (Builtin.«itertools.combinations.__new__» ⟨[.type "itertools.combinations", .ref l, .int m t], []⟩)
    (fun A R s => wpAny (model P w) A.in1 (collect (.ref l)) (fun items s1 => items.length ≤ sizeLine ∧ m ≤ items.length ∧ R (.ok (.ret (.ref (s1.heap.push (tupO items)).objs.size))) { s1 with heap := cbH s1.heap items m }) (fun e s1 => R (.error e) s1) s) :=
  .of_wp fun A R s h => by
    unfold Builtin.«itertools.combinations.__new__»
    refine wpAny_bind ?_
    refine wpAny_bind (m := itClassAndRest "combinations" _) (wpAny_of_eq (cb_class _ _) ?_)
    refine wpAny_bind (m := itBindNamed "combinations" ["iterable", "r"] 2 2 _ _) (wpAny_of_eq (cb_bind _ _) ?_)
    refine wpAny_bind (m := itSsizeArg (.int m t)) ?_
    · unfold itSsizeArg
      refine wpAny_bind (wpAny_of_eq (rfl : asIndex (.int m t) = pure (m : Int)) ?_)
      rw [if_neg (by simp; omega)]
      refine wpAny_pure ?_
      refine wpAny_bind (m := collect (.ref l)) (wpAny_mono h (fun items s1 ⟨k1, k2, k3⟩ => ?_) fun _ _ z => z)
      have neg : ¬ ((m : Int) < 0) := by omega
      have big : ¬ (itTooMany (m : Int) = true) := by
        unfold itTooMany
        simp
        omega
      dsimp only
      rw [if_neg neg, if_neg big]
      refine wpAny_bind (wpAny_newTuple (wpAny_pure ?_) k1)
      dsimp only
      have e0 : (if (m : Int).toNat > items.length then (2 : Int) else 0) = 0 := by
        rw [Int.toNat_natCast, if_neg (by omega)]
      rw [e0]
      refine wpAny_bind (m := itNewRecord _ _) ?_
      unfold itNewRecord
      have hd : typeHasDict (.type "itertools.combinations") = false := by decide +kernel
      rw [hd, if_pos (by rfl)]
      refine wpAny_newObj_type ?_ (by
        show ([Value.ref s1.heap.objs.size, rawInt 0, Value.none] ++ List.map (fun i : Nat => rawInt i) (List.range m)).toArray.size ≤ sizeLine + 2
        rw [List.size_toArray, List.length_append, List.length_map, List.length_range]
        exact Nat.le_trans (Nat.add_le_add_left hm 3) (by decide))
      exact wpAny_pure ⟨_, rfl, k3⟩
/-- combinations(l, m) is made -/
theorem call_comb {l : Addr} {items : List Value} {m : Nat} {t : Tok} {Q : Value → Shared → Prop} (hm : m ≤ 100) (hl : s.heap.IsList l items.toArray) (few : items.length ≤ sizeLine) (hml : m ≤ items.length)
    (h : ∀ (h' : Heap) (pool : Addr), h'.get? pool = some (tupO items) → h'.get? (pool + 1) = some (cbObj pool 0 .none (List.range m)) → s.heap.objs.size ≤ pool → s.heap.objs.size ≤ h'.objs.size → (∀ b o, s.heap.get? b = some o → h'.get? b = some o) → Q (.ref (pool + 1)) { s with heap := h' }) :
    wpAny (model P w) A (call (.type "itertools.combinations") [.ref l, .int m t]) Q E s := by
  refine callType_newIn cb_called (by decide) (cb_typeCall _ _) (cb_newCall _ _) (fun obj => F.args_object_init_3 obj _ _) cb_entry_new (cb_new hm) ?_
  show wpAny (model P w) A.in1.in1 (collect (.ref l)) _ _ _
  refine collect_list hl ?_ few
  have keep : ∀ b o, s.heap.get? b = some o → ((s.heap.push (seqObj "list" #[] 0)).update s.heap.objs.size (Obj.mapSeq (· ++ items.toArray))).get? b = some o := fun b o ho => by
    rw [Heap.get?_update_ne _ _ _ _ (Nat.ne_of_lt (Heap.lt_size ho))]
    exact Heap.get?_push_of_some _ ho
  have sz : s.heap.objs.size ≤ ((s.heap.push (seqObj "list" #[] 0)).update s.heap.objs.size (Obj.mapSeq (· ++ items.toArray))).objs.size := by
    rw [Heap.size_update, size_push']
    exact Nat.le_succ _
  generalize (s.heap.push (seqObj "list" #[] 0)).update s.heap.objs.size (Obj.mapSeq (· ++ items.toArray)) = g at keep sz ⊢
  have z : (g.push (tupO items)).objs.size = g.objs.size + 1 := Heap.size_push ..
  have z2 : (cbH g items m).objs.size = g.objs.size + 2 := by rw [Heap.size_push, z]
  have gI : (cbH g items m).get? (g.push (tupO items)).objs.size = some (cbObj g.objs.size 0 .none (List.range m)) := Heap.get?_push_size _ rfl
  have gp : (cbH g items m).get? g.objs.size = some (tupO items) := Heap.get?_push_of_some _ (Heap.get?_push_size _ rfl)
  refine ⟨few, hml, ?_⟩
  refine ⟨⟨_, gI, rfl⟩, ?_⟩
  rw [z] at gI ⊢
  exact h _ _ gp gI sz (by rw [z2]; exact Nat.le_trans sz (Nat.le_add_right _ _)) fun b o ho => Heap.get?_push_of_some _ (Heap.get?_push_of_some _ (keep b o ho))
end
end Fw
namespace Fw
open PySem PySem.Spec PyProof.Rows L2
open Builtin.Itertools PySem.W
/-- the places that come after idx -/
def ChainC (n : Nat) : List Nat → List (List Nat) → Prop
  | idx, [] => nxtC n idx = none
  | idx, nx :: r => (nxtC n idx = some nx ∧ nx.length ≤ 100) ∧ ChainC n nx r
/-- new tuples stand at these places, in order -/
def NewTs (lo : Nat) (hp : Heap) (as : List Addr) (vss : List (List Value)) : Prop := EachIs (fun (a : Addr) (vs : List Value) => lo ≤ a ∧ hp.get? a = some (tupO vs)) as vss ∧ as.Pairwise fun a b : Addr => a < b
theorem NewTs.keep {lo : Nat} {hp hp' : Heap} {as : List Addr} {vss : List (List Value)} (h : NewTs lo hp as vss) (k : ∀ b o, lo ≤ b → hp.get? b = some o → hp'.get? b = some o) : NewTs lo hp' as vss := ⟨h.1.mono fun a vs h => ⟨h.1, k a _ h.1 h.2⟩, h.2⟩
theorem each_ge {lo : Nat} {hp : Heap} {as : List Addr} {vss : List (List Value)} (h : EachIs (fun (a : Addr) (vs : List Value) => lo ≤ a ∧ hp.get? a = some (tupO vs)) as vss) : ∀ a ∈ as, lo ≤ a := by
  induction h with
  | nil => exact fun a h => by cases h
  | cons h _ ih =>
    intro a ha
    rcases List.mem_cons.mp ha with rfl | ha
    · exact h.1
    · exact ih a ha
theorem NewTs.ge {lo : Nat} {hp : Heap} {as : List Addr} {vss : List (List Value)} (h : NewTs lo hp as vss) : ∀ a ∈ as, lo ≤ a := each_ge h.1
theorem NewTs.cons {lo lo2 : Nat} {hp : Heap} {a : Addr} {vs : List Value} {as : List Addr} {vss : List (List Value)} (h : hp.get? a = some (tupO vs)) (l1 : lo ≤ a) (l2 : a < lo2) (t : NewTs lo2 hp as vss) : NewTs lo hp (a :: as) (vs :: vss) :=
  ⟨.cons ⟨l1, h⟩ (t.1.mono fun b vs h => ⟨Nat.le_trans l1 (Nat.le_trans (Nat.le_of_lt l2) h.1), h.2⟩), List.pairwise_cons.mpr ⟨fun b hb => Nat.lt_of_lt_of_le l2 (t.ge b hb), t.2⟩⟩
abbrev pickC (items : List Value) (nx : List Nat) : List Value := nx.map fun i => items.getD i .none
section
variable {P : Program} {w : World} {A : Around} {E : Value → Shared → Prop} {I pool : Addr} {items : List Value} {R : Result → Shared → Prop}
theorem lstO_eq (acc : Array Value) (c : Nat) : ({ cls := .type "list", dict := none, data := .seq acc c, slots := #[] } : Obj) = seqObj "list" acc c := rfl
theorem cb_loop (calm : A.handled = none) {S : Addr} {rv : Value} (n1 : S ≠ I) (n2 : S ≠ pool) (n3 : pool ≠ I) : ∀ (r : List (List Nat)) (idx : List Nat) (res : Value) (s : Shared) (acc : List Value) (c : Nat), ChainC items.length idx r → s.heap.get? I = some (cbObj pool 1 res idx) → s.heap.get? pool = some (tupO items) → s.heap.get? S = some (seqObj "list" acc.toArray c) → acc.length + r.length ≤ sizeLine →
    (∀ (hp : Heap) (as : List Addr) (c' : Nat), NewTs s.heap.objs.size hp as (r.map (pickC items)) → hp.get? S = some (seqObj "list" (acc ++ as.map Value.ref).toArray c') → (∀ b o, b ≠ I → b ≠ S → s.heap.get? b = some o → hp.get? b = some o) → s.heap.objs.size ≤ hp.objs.size → R (.ok (.ret rv)) { s with heap := hp }) →
    codeAny (model P w) A (.builtin "list.extend.loop" ⟨[.ref S, .ref I, rv], []⟩) R s := by
  intro r
  induction r with
  | nil =>
    intro idx res s acc c ch hI hp hS few hR
    refine codeAny_builtin F.entry_extend_loop ?_
    rw [Around.under_plainId F.plain_extend_loop _]
    show wpAny _ A.in1 (pyNext (.ref I) >>= _) _ _ s
    refine wpAny_bind (cb_end (A := A.in1) calm hI hp (by rw [List.size_toArray]; exact ch) fun hp' k kz => ?_)
    refine wpAny_pure (hR hp' [] c ⟨.nil, .nil⟩ ?_ (fun b o h1 _ ho => k b o h1 ho) kz)
    rw [List.map_nil, List.append_nil]
    exact k S _ n1 hS
  | cons nx r ih =>
    intro idx res s acc c ch hI hp hS few hR
    obtain ⟨⟨c1, c2⟩, c3⟩ := ch
    refine codeAny_builtin F.entry_extend_loop ?_
    rw [Around.under_plainId F.plain_extend_loop _]
    show wpAny _ A.in1 (pyNext (.ref I) >>= _) _ _ s
    refine wpAny_bind (cb_second (A := A.in1) hI hp n3 c2 (by rw [List.size_toArray]; exact c1) fun hp' k1 k2 k3 => ?_)
    have hS' : hp'.get? S = some (seqObj "list" acc.toArray c) := k3 S _ n1 hS
    have ltI : I < s.heap.objs.size := Heap.lt_size hI
    have ltS : S < s.heap.objs.size := Heap.lt_size hS
    have ltp : pool < s.heap.objs.size := Heap.lt_size hp
    have ltz : s.heap.objs.size < hp'.objs.size := Heap.lt_size k2
    show wpAny _ A.in1 (updateSeq S (·.push (Value.ref s.heap.objs.size)) >>= _) _ _ { s with heap := hp' }
    refine wpAny_bind ?_
    rw [List.length_cons] at few
    obtain ⟨c1', e1⟩ : ∃ c, (hp'.update S (Obj.mapSeq (·.push (Value.ref s.heap.objs.size)))).get? S = some (seqObj "list" (acc.toArray.push (Value.ref s.heap.objs.size)) c) := ⟨_, get?_update_seq hS' _⟩
    rw [List.push_toArray] at e1
    refine wpAny_updateSeq hS' rfl (wpAny_pure ⟨plainId_quiet F.plain_extend_loop _, ih nx _ _ (acc ++ [Value.ref s.heap.objs.size]) c1' c3 ((Heap.get?_update_ne _ _ _ _ (Ne.symm n1)).trans k1) ((Heap.get?_update_ne _ _ _ _ (Ne.symm n2)).trans (k3 pool _ n3 hp)) e1 (by rw [List.length_append, List.length_singleton]; omega) fun hp2 as c' m1 m2 m3 m4 => ?_⟩)
      (by rw [List.size_toArray]; omega) (by show (acc.toArray.push _).size ≤ sizeLine + 1; rw [Array.size_push, List.size_toArray]; omega)
    have kz : (hp'.update S (Obj.mapSeq (·.push (Value.ref s.heap.objs.size)))).objs.size = hp'.objs.size := Heap.size_update ..
    rw [kz] at m1 m4
    refine hR hp2 (s.heap.objs.size :: as) c' (NewTs.cons ?_ (Nat.le_refl _) ltz m1) ?_ (fun b o h1 h2 ho => m3 b o h1 h2 ((Heap.get?_update_ne _ _ _ _ h2).trans (k3 b o h1 ho))) (Nat.le_trans (Nat.le_of_lt ltz) m4)
    · exact m3 _ _ (Nat.ne_of_gt ltI) (Nat.ne_of_gt ltS) ((Heap.get?_update_ne _ _ _ _ (Nat.ne_of_gt ltS)).trans k2)
    · rw [List.append_assoc] at m2
      exact m2
theorem cb_pyIter {Q : Value → Shared → Prop} {s : Shared} {st : Int} {res : Value} {idx : List Nat} (hI : s.heap.get? I = some (cbObj pool st res idx)) (h : Q (.ref I) s) : wpAny (model P w) A (pyIter (.ref I)) Q E s := by
  have hT : s.TypeIs (.ref I) "itertools.combinations" := ⟨_, hI, rfl⟩
  refine wpAny_pyIter_slot hT cb_slot_iter (wpAny_call_entry cb_slot_iter hT cb_entry_iter ?_ (cb_args_iter _))
  show wpAny _ _ (ret (.ref I)) _ _ s
  exact wpAny_pure ⟨_, rfl, "itertools.combinations", _, hT, cb_slot_next.lookup, h⟩
/-- the first round of the loop, then all others -/
theorem cb_loop0 (calm : A.handled = none) {S : Addr} {rv : Value} (n1 : S ≠ I) (n2 : S ≠ pool) (n3 : pool ≠ I) {r : List (List Nat)} {idx : List Nat} {res : Value} {s : Shared} {c : Nat} (few0 : idx.length ≤ 100) (ch : ChainC items.length idx r) (hI : s.heap.get? I = some (cbObj pool 0 res idx)) (hp : s.heap.get? pool = some (tupO items)) (hS : s.heap.get? S = some (seqObj "list" #[] c)) (few : 1 + r.length ≤ sizeLine)
    (hR : ∀ (hp : Heap) (as : List Addr) (c' : Nat), NewTs s.heap.objs.size hp as ((idx :: r).map (pickC items)) → hp.get? S = some (seqObj "list" (as.map Value.ref).toArray c') → (∀ b o, b ≠ I → b ≠ S → s.heap.get? b = some o → hp.get? b = some o) → s.heap.objs.size ≤ hp.objs.size → R (.ok (.ret rv)) { s with heap := hp }) :
    codeAny (model P w) A (.builtin "list.extend.loop" ⟨[.ref S, .ref I, rv], []⟩) R s := by
  refine codeAny_builtin F.entry_extend_loop ?_
  rw [Around.under_plainId F.plain_extend_loop _]
  show wpAny _ A.in1 (pyNext (.ref I) >>= _) _ _ s
  refine wpAny_bind (cb_first (A := A.in1) hI hp n3 few0 fun hp' k1 k2 k3 => ?_)
  have hS' : hp'.get? S = some (seqObj "list" #[] c) := k3 S _ n1 hS
  have ltI : I < s.heap.objs.size := Heap.lt_size hI
  have ltS : S < s.heap.objs.size := Heap.lt_size hS
  have ltz : s.heap.objs.size < hp'.objs.size := Heap.lt_size k2
  show wpAny _ A.in1 (updateSeq S (·.push (Value.ref s.heap.objs.size)) >>= _) _ _ { s with heap := hp' }
  refine wpAny_bind ?_
  obtain ⟨c1', e1⟩ : ∃ c, (hp'.update S (Obj.mapSeq (·.push (Value.ref s.heap.objs.size)))).get? S = some (seqObj "list" #[Value.ref s.heap.objs.size] c) := ⟨_, get?_update_seq hS' _⟩
  refine wpAny_updateSeq hS' rfl (wpAny_pure ⟨plainId_quiet F.plain_extend_loop _, cb_loop calm n1 n2 n3 r idx _ _ [Value.ref s.heap.objs.size] c1' ch ((Heap.get?_update_ne _ _ _ _ (Ne.symm n1)).trans k1) ((Heap.get?_update_ne _ _ _ _ (Ne.symm n2)).trans (k3 pool _ n3 hp)) e1 few fun hp2 as c' m1 m2 m3 m4 => ?_⟩)
    (by show 0 ≤ sizeLine; exact Nat.zero_le _) (by show 1 ≤ sizeLine + 1; exact Nat.le_add_left _ _)
  have kz : (hp'.update S (Obj.mapSeq (·.push (Value.ref s.heap.objs.size)))).objs.size = hp'.objs.size := Heap.size_update ..
  rw [kz] at m1 m4
  refine hR hp2 (s.heap.objs.size :: as) c' (NewTs.cons ?_ (Nat.le_refl _) ltz m1) m2 (fun b o h1 h2 ho => m3 b o h1 h2 ((Heap.get?_update_ne _ _ _ _ h2).trans (k3 b o h1 ho))) (Nat.le_trans (Nat.le_of_lt ltz) m4)
  exact m3 _ _ (Nat.ne_of_gt ltI) (Nat.ne_of_gt ltS) ((Heap.get?_update_ne _ _ _ _ (Nat.ne_of_gt ltS)).trans k2)
theorem collect_comb {Q : List Value → Shared → Prop} {s : Shared} (calm : A.handled = none) (n3 : pool ≠ I) {r : List (List Nat)} {idx : List Nat} {res : Value} (few0 : idx.length ≤ 100) (ch : ChainC items.length idx r) (hI : s.heap.get? I = some (cbObj pool 0 res idx)) (hp : s.heap.get? pool = some (tupO items)) (few : 1 + r.length ≤ sizeLine)
    (hQ : ∀ (hp : Heap) (as : List Addr), NewTs s.heap.objs.size hp as ((idx :: r).map (pickC items)) → (∀ b o, b ≠ I → s.heap.get? b = some o → hp.get? b = some o) → s.heap.objs.size ≤ hp.objs.size → Q (as.map Value.ref) { s with heap := hp }) :
    wpAny (model P w) A (collect (.ref I)) Q E s := by
  have ltI : I < s.heap.objs.size := Heap.lt_size hI
  have ltp : pool < s.heap.objs.size := Heap.lt_size hp
  unfold collect
  refine wpAny_bind (wpAny_runValue (codeAny_builtin F.entry_proto_collect ?_))
  rw [Around.under_plainId F.plain_proto_collect _]
  show wpAny _ A.in1 (newList [] >>= fun l => again (.builtin "list.__iadd__" ⟨[l, .ref I], []⟩)) _ _ s
  refine wpAny_bind (wpAny_newObj_type ?_)
  refine wpAny_pure ⟨plainId_quiet F.plain_list_iadd _, codeAny_builtin F.entry_list_iadd ?_⟩
  rw [Around.under_plainId F.plain_list_iadd _]
  have hI1 : (s.heap.push (seqObj "list" #[] 0)).get? I = some (cbObj pool 0 res idx) := Heap.get?_push_of_some _ hI
  have hp1 : (s.heap.push (seqObj "list" #[] 0)).get? pool = some (tupO items) := Heap.get?_push_of_some _ hp
  have hS1 : (s.heap.push (seqObj "list" #[] 0)).get? s.heap.objs.size = some (seqObj "list" #[] 0) := Heap.get?_push_size _ rfl
  have sz1 : (s.heap.push (seqObj "list" #[] 0)).objs.size = s.heap.objs.size + 1 := Heap.size_push ..
  have old1 : ∀ b o, s.heap.get? b = some o → (s.heap.push (seqObj "list" #[] 0)).get? b = some o := fun b o ho => Heap.get?_push_of_some _ ho
  show wpAny _ A.in1 (Builtin.List.listExtendWith (.ref s.heap.objs.size) (.ref I) (.ref s.heap.objs.size)) _ _ { s with heap := s.heap.push (seqObj "list" #[] 0) }
  generalize s.heap.push (seqObj "list" #[] 0) = g at hI1 hp1 hS1 sz1 old1 ⊢
  have hT : ({ s with heap := g } : Shared).TypeIs (.ref I) "itertools.combinations" := ⟨_, hI1, rfl⟩
  unfold Builtin.List.listExtendWith
  refine wpAny_bind (wpAny_typeOf hT ?_)
  have h1 : Builtin.List.listSameRef (.ref s.heap.objs.size) (.ref I) = false := by simp [Builtin.List.listSameRef, Nat.ne_of_gt ltI]
  have h2 : (Value.type "itertools.combinations" == Value.type "list") = false := by decide
  have h3 : (Value.type "itertools.combinations" == Value.type "tuple") = false := by decide
  simp only [h1, h2, h3, Bool.or_false, Bool.false_eq_true, if_false]
  refine wpAny_bind (cb_pyIter (A := A.in1) hI1 ?_)
  refine wpAny_bind (wpAny_holding ?_)
  unfold Builtin.List.listLengthHint
  refine wpAny_bind (wpAny_specialOf hT cb_nolen ?_)
  show wpAny _ A.in1 (specialOf (Value.ref I) (Str.ofString "__length_hint__") >>= _) _ _ _
  refine wpAny_bind (wpAny_specialOf hT cb_nohint ?_)
  refine wpAny_pure ?_
  show wpAny _ A.in1 (rule "list.extend.makes-room" >>= fun _ => Builtin.List.listTouch (.ref s.heap.objs.size) >>= fun _ =>
    again (.builtin "list.extend.loop" ⟨[.ref s.heap.objs.size, .ref I, .ref s.heap.objs.size], []⟩)) _ _ _
  refine wpAny_bind (wpAny_rule ?_)
  refine wpAny_bind ?_
  show wpAny _ A.in1 (updateSeq s.heap.objs.size (·.push .none) >>= fun _ => updateSeq s.heap.objs.size (·.pop)) _ _ { s with heap := g }
  refine wpAny_bind (wpAny_updateSeq hS1 rfl ?_)
  have hS2 := get?_update_seq hS1 (·.push Value.none)
  refine wpAny_updateSeq hS2 rfl ?_
  have hS3 := get?_update_seq hS2 (·.pop)
  have oth : ∀ b o, b ≠ s.heap.objs.size → g.get? b = some o → ((g.update s.heap.objs.size (Obj.mapSeq (·.push Value.none))).update s.heap.objs.size (Obj.mapSeq (·.pop))).get? b = some o :=
    fun b o hb e => (Heap.get?_update_ne _ _ _ _ hb).trans ((Heap.get?_update_ne _ _ _ _ hb).trans e)
  have sz3 : ((g.update s.heap.objs.size (Obj.mapSeq (·.push Value.none))).update s.heap.objs.size (Obj.mapSeq (·.pop))).objs.size = s.heap.objs.size + 1 := by rw [Heap.size_update, Heap.size_update, sz1]
  generalize (g.update s.heap.objs.size (Obj.mapSeq (·.push Value.none))).update s.heap.objs.size (Obj.mapSeq (·.pop)) = g3 at hS3 oth sz3 ⊢
  have hS3' : ∃ c, g3.get? s.heap.objs.size = some (seqObj "list" #[] c) := ⟨_, hS3⟩
  obtain ⟨c3, hS3⟩ := hS3'
  refine wpAny_pure ⟨plainId_quiet F.plain_extend_loop _, cb_loop0 (s := { s with heap := g3 }) calm (Nat.ne_of_gt ltI) (Nat.ne_of_gt ltp) n3 few0 ch (oth _ _ (Nat.ne_of_lt ltI) hI1) (oth _ _ (Nat.ne_of_lt ltp) hp1) hS3 few fun hp2 as c' m1 m2 m3 m4 => ?_⟩
  show wpAny _ A (load s.heap.objs.size >>= _) _ _ { s with heap := hp2 }
  refine wpAny_bind (wpAny_load m2 ?_)
  have le1 : s.heap.objs.size ≤ g3.objs.size := by rw [sz3]; exact Nat.le_succ _
  refine wpAny_pure (hQ hp2 as ⟨m1.1.mono fun a vs h => ⟨Nat.le_trans le1 h.1, h.2⟩, m1.2⟩ (fun b o hb ho => ?_) (Nat.le_trans le1 m4))
  have ltb := Heap.lt_size ho
  exact m3 b o hb (Nat.ne_of_lt ltb) (oth b o (Nat.ne_of_lt ltb) (old1 b o ho))
end
end Fw
namespace Fw
open PySem PySem.Spec PyProof.Rows L2 PySem.W
def combM : List Str → Nat → List (List Str)
  | _, 0 => [[]]
  | l, 1 => l.map fun a => [a]
  | [a, b], 2 => [[a, b]]
  | _, _ => []
/-- what the iterator hands out, of two texts at most -/
theorem comb_vals {xs : List Str} {us : List Value} {m : Nat} (rv : Vals (xs.map V.str) us) (hl : xs.length ≤ 2) (hml : m ≤ xs.length) :
    ∃ r, ChainC us.length (List.range m) r ∧ r.length ≤ 1 ∧ EachIs (fun vs (c : List Str) => Vals (c.map V.str) vs) ((List.range m :: r).map (pickC us)) (combM xs m) := by
  match xs, us, rv, hl with
  | [], _, .nil, _ =>
    have : m = 0 := Nat.le_zero.mp hml
    subst this
    exact ⟨[], rfl, by decide, .cons .nil .nil⟩
  | [x], _, .cons r .nil, _ =>
    match m, hml with
    | 0, _ => exact ⟨[], rfl, by decide, .cons .nil .nil⟩
    | 1, _ => exact ⟨[], rfl, by decide, .cons (.cons r .nil) .nil⟩
  | [x, y], _, .cons r (.cons r2 .nil), _ =>
    match m, hml with
    | 0, _ => exact ⟨[], rfl, by decide, .cons .nil .nil⟩
    | 1, _ => exact ⟨[[1]], ⟨⟨rfl, by decide⟩, rfl⟩, by decide, .cons (.cons r .nil) (.cons (.cons r2 .nil) .nil)⟩
    | 2, _ => exact ⟨[], rfl, by decide, .cons (.cons r (.cons r2 .nil)) .nil⟩
theorem comb_lens {xs : List Str} {m : Nat} (hl : xs.length ≤ 2) (hml : m ≤ xs.length) : (combM xs m).length ≤ 2 ∧ ∀ c ∈ combM xs m, c.length ≤ 2 := by
  match xs, hl with
  | [], _ =>
    have : m = 0 := Nat.le_zero.mp hml
    subst this
    simp [combM]
  | [x], _ =>
    match m, hml with
    | 0, _ => simp [combM]
    | 1, _ => simp [combM]
  | [x, y], _ =>
    match m, hml with
    | 0, _ => simp [combM]
    | 1, _ => simp [combM]
    | 2, _ => simp [combM]
theorem lt_one {a b : Str} (h : slt a b) : dataLt (.tuple [.str b]) (.tuple [.str a]) = false := by
  have hn : ¬ slt b a := fun z => slt_irrefl _ (slt_trans h z)
  rw [dataLt_tuple, dataLt_cons (by simp [alike]), dataLt_str]
  split
  · exact PyProof.Rows.lex_irrefl _
  · exact decide_eq_false hn
/-- the pairs that are sorted -/
def bsC (as : List Addr) (cs : List (List Str)) : List (V × PyData) := (as.zip cs).map fun q => (V.ref q.1, PyData.tuple (q.2.map PyData.str))
theorem bsC_sorted {xs : List Str} {m : Nat} {as : List Addr} (hl : xs.length ≤ 2) (hml : m ≤ xs.length) (hs : Asc xs) (ha : as.length = (combM xs m).length) : (bsC as (combM xs m)).mergeSort (dataLe false (·.2)) = bsC as (combM xs m) := by
  refine List.mergeSort_of_pairwise ?_
  match xs, hl, hs with
  | [], _, _ =>
    have : m = 0 := Nat.le_zero.mp hml
    subst this
    match as, ha with
    | [a], _ => exact List.pairwise_singleton _ _
  | [x], _, _ =>
    match m, hml, as, ha with
    | 0, _, [a], _ => exact List.pairwise_singleton _ _
    | 1, _, [a], _ => exact List.pairwise_singleton _ _
  | [x, y], _, hs =>
    match m, hml, as, ha with
    | 0, _, [a], _ => exact List.pairwise_singleton _ _
    | 1, _, [a, b], _ =>
      refine .cons (fun z hz => ?_) (List.pairwise_singleton _ _)
      rw [List.mem_singleton.mp hz]
      show (!dataLt (.tuple [.str y]) (.tuple [.str x])) = true
      rw [lt_one ((List.pairwise_cons.mp hs).1 y (List.mem_singleton.mpr rfl))]
      rfl
    | 2, _, [a], _ => exact List.pairwise_singleton _ _
theorem bsC_fst : ∀ {as : List Addr} {cs : List (List Str)}, as.length = cs.length → (bsC as cs).map (·.1) = as.map V.ref
  | [], [], _ => rfl
  | a :: as, c :: cs, h => by
    have := bsC_fst (as := as) (cs := cs) (Nat.succ.inj h)
    unfold bsC at this ⊢
    rw [List.zip_cons_cons, List.map_cons, List.map_cons, List.map_cons, this]
theorem bsC_snd : ∀ {as : List Addr} {cs : List (List Str)}, as.length = cs.length → (bsC as cs).map (·.2) = cs.map fun c => PyData.tuple (c.map PyData.str)
  | [], [], _ => rfl
  | a :: as, c :: cs, h => by
    have := bsC_snd (as := as) (cs := cs) (Nat.succ.inj h)
    unfold bsC at this ⊢
    rw [List.zip_cons_cons, List.map_cons, List.map_cons, List.map_cons, this]
theorem vals_reads {hp : Heap} : ∀ {c : List Str} {vs : List Value}, Vals (c.map V.str) vs → ReadsAll hp vs (c.map PyData.str) []
  | [], _, .nil => .nil
  | x :: c, _, .cons r t => by
    obtain ⟨k, rfl⟩ := r
    exact .cons (as := []) (bs := []) (.str x k) (vals_reads t)
/-- new tuples of texts stand at these places -/
def NewC (lo : Nat) (hp : Heap) (as : List Addr) (cs : List (List Str)) : Prop := EachIs (fun (a : Addr) (c : List Str) => lo ≤ a ∧ ∃ vs, hp.get? a = some (tupO vs) ∧ Vals (c.map V.str) vs) as cs ∧ as.Pairwise fun a b : Addr => a < b
theorem each_comp {lo : Nat} {hp : Heap} {as : List Addr} {vss : List (List Value)} (h : EachIs (fun (a : Addr) (vs : List Value) => lo ≤ a ∧ hp.get? a = some (tupO vs)) as vss) : ∀ {cs : List (List Str)}, EachIs (fun vs (c : List Str) => Vals (c.map V.str) vs) vss cs → EachIs (fun (a : Addr) (c : List Str) => lo ≤ a ∧ ∃ vs, hp.get? a = some (tupO vs) ∧ Vals (c.map V.str) vs) as cs := by
  induction h with
  | nil => intro cs k; cases k; exact .nil
  | cons h _ ih =>
    intro cs k
    cases k with
    | cons k t => exact .cons ⟨h.1, _, h.2, k⟩ (ih t)
theorem newC_of {lo : Nat} {hp : Heap} {as : List Addr} {vss : List (List Value)} {cs : List (List Str)} (h : NewTs lo hp as vss) (k : EachIs (fun vs (c : List Str) => Vals (c.map V.str) vs) vss cs) : NewC lo hp as cs := ⟨each_comp h.1 k, h.2⟩
theorem each_rel {lo : Nat} {hp : Heap} {as : List Addr} {cs : List (List Str)} (h : EachIs (fun (a : Addr) (c : List Str) => lo ≤ a ∧ ∃ vs, hp.get? a = some (tupO vs) ∧ Vals (c.map V.str) vs) as cs) :
    EachIs (fun u (b : V × PyData) => RelV b.1 u) (as.map Value.ref) (bsC as cs) ∧ EachIs (fun u (b : V × PyData) => ∃ xs, Reads hp u b.2 xs) (as.map Value.ref) (bsC as cs) := by
  induction h with
  | nil => exact ⟨.nil, .nil⟩
  | cons h _ ih =>
    obtain ⟨_, vs, e, k⟩ := h
    exact ⟨.cons rfl ih.1, .cons ⟨_, .tuple e rfl rfl (vals_reads k)⟩ ih.2⟩
end Fw
namespace Fw
open PySem PySem.Spec PyProof.Rows L2 PySem.W
/-- new tuples, known from now on -/
def putTs : Hp → List Addr → List (List Str) → Hp
  | H, a :: as, c :: cs => putTs (upd H a (.tup (c.map V.str))) as cs
  | H, _, _ => H
theorem putTs_ne : ∀ {as : List Addr} {cs : List (List Str)} {H : Hp} {b : Addr}, b ∉ as → putTs H as cs b = H b
  | [], _, _, _, _ => by unfold putTs; rfl
  | _ :: _, [], _, _, _ => by unfold putTs; rfl
  | a :: as, c :: cs, H, b, h => by
    obtain ⟨h1, h2⟩ : b ≠ a ∧ b ∉ as := by simpa using h
    rw [putTs, putTs_ne h2, upd_ne h1]
theorem putTs_ok {P : Program} {w : World} {hp : Heap} {lo : Nat} : ∀ {as : List Addr} {cs : List (List Str)} {H : Hp}, HOk P w H hp → EachIs (fun (a : Addr) (c : List Str) => lo ≤ a ∧ ∃ vs, hp.get? a = some (tupO vs) ∧ Vals (c.map V.str) vs) as cs → as.Pairwise (fun a b : Addr => a < b) → (∀ a ∈ as, H a = none) → (∀ c ∈ cs, c.length ≤ 2) → HOk P w (putTs H as cs) hp
  | _, _, _, x, .nil, _, _, _ => by unfold putTs; exact x
  | a :: as, c :: cs, H, x, .cons h t, pw, hn, few => by
    obtain ⟨_, vs, e, r⟩ := h
    obtain ⟨p1, p2⟩ := List.pairwise_cons.mp pw
    unfold putTs
    refine putTs_ok (HOk.laidN x (fun _ _ q => q) (hn a List.mem_cons_self) ⟨?_, vs, r, ⟨_, e, rfl, _, rfl⟩⟩) t p2 (fun b hb => ?_) fun z hz => few z (List.mem_cons_of_mem _ hz)
    · rw [List.length_map]
      exact Nat.le_trans (few c List.mem_cons_self) (by decide)
    · rw [upd_ne (Nat.ne_of_gt (p1 b hb))]
      exact hn b (List.mem_cons_of_mem _ hb)
/-- the tuples are read so -/
theorem putTs_at : ∀ {as : List Addr} {cs : List (List Str)} {H : Hp}, as.length = cs.length → as.Pairwise (fun a b : Addr => a < b) → ∀ {W : Wd}, RpA W (putTs H as cs) (as.map V.ref) (cs.map eLot)
  | [], [], _, _, _, _ => .nil
  | a :: as, c :: cs, H, h, pw, W => by
    obtain ⟨p1, p2⟩ := List.pairwise_cons.mp pw
    have ih := putTs_at (H := upd H a (.tup (c.map V.str))) (Nat.succ.inj h) p2 (W := W)
    unfold putTs
    refine .cons (.tup (xs := c.map V.str) (.inl (.inl ?_)) (RpA.of_strs _)) ih
    rw [putTs_ne fun z => Nat.lt_irrefl _ (p1 a z), upd_same]
theorem putTs_grow : ∀ {as : List Addr} {cs : List (List Str)} {G H : Hp}, Ex G H → (∀ a ∈ as, H a = none) → as.Pairwise (fun a b : Addr => a < b) → Grow G H (putTs G as cs) (putTs H as cs)
  | [], _, _, _, i, _, _ => by unfold putTs; exact Grow.refl i
  | _ :: _, [], _, _, i, _, _ => by unfold putTs; exact Grow.refl i
  | a :: as, c :: cs, G, H, i, n, pw => by
    obtain ⟨p1, p2⟩ := List.pairwise_cons.mp pw
    have g := Grow.new (o := .tup (c.map V.str)) i (n a List.mem_cons_self)
    unfold putTs
    exact g.trans (putTs_grow g.i (fun b hb => by
      rw [upd_ne (Nat.ne_of_gt (p1 b hb))]
      exact n b (List.mem_cons_of_mem _ hb)) p2)
section
variable {X : Cx} {pins : List (Addr × Obj)} {σ : L2.St} {H : Hp} {s : Shared}
theorem newC_ge {lo : Nat} {hp : Heap} {as : List Addr} {cs : List (List Str)} (h : EachIs (fun (a : Addr) (c : List Str) => lo ≤ a ∧ ∃ vs, hp.get? a = some (tupO vs) ∧ Vals (c.map V.str) vs) as cs) : ∀ a ∈ as, lo ≤ a := by
  induction h with
  | nil => exact fun a h => by cases h
  | cons h _ ih =>
    intro a ha
    rcases List.mem_cons.mp ha with rfl | ha
    · exact h.1
    · exact ih a ha
/-- tuples and a list with them stand behind a call that made other things too -/
theorem inv_combs (I : Inv X pins σ H s) {s2 : Shared} {as : List Addr} {cs : List (List Str)} {p : Addr} {out : List Value} {c : Nat} (os : s2.os = s.os) (g : s2.gens = s.gens) (k : ∀ b o, s.heap.get? b = some o → s2.heap.get? b = some o) (n : NewC s.heap.objs.size s2.heap as cs) (few : ∀ c ∈ cs, c.length ≤ 2) (hp : s.heap.objs.size ≤ p) (np : p ∉ as)
    (here : s2.heap.get? p = some (seqObj "list" out.toArray c)) (vals : Vals (as.map V.ref) out) (hl : as.length ≤ sizeLine) : Inv X pins σ (upd (putTs H as cs) p (.lst (as.map V.ref))) s2 ∧ (∀ a ∈ as, H a = none) ∧ putTs H as cs p = none := by
  have ge := newC_ge n.1
  have hn : ∀ a ∈ as, H a = none := fun a ha => I.hok.fresh (ge a ha)
  have hnp : putTs H as cs p = none := by rw [putTs_ne np]; exact I.hok.fresh hp
  have same : ∀ b, b < s.heap.objs.size → upd (putTs H as cs) p (.lst (as.map V.ref)) b = H b := fun b hb => by
    rw [upd_ne (Nat.ne_of_lt (Nat.lt_of_lt_of_le hb hp)), putTs_ne fun z => Nat.lt_irrefl _ (Nat.lt_of_lt_of_le hb (ge b z))]
  refine ⟨I.call' (ch := []) os ⟨fun b o e _ _ _ => k b o e, fun b o e _ _ _ => ⟨o.slots, k b o e⟩, fun b o e n _ => by rw [same b (Heap.lt_size e)]; exact n, fun b o e _ => ⟨o, k b o e⟩, fun b xs e => ?_, fun b o u e => ?_, fun b ps e => ⟨#[], ?_⟩⟩ ?_ (by rw [g]; exact I.bare) (fun _ z => nomatch z), hn, hnp⟩
  · rw [same b (I.hok.lt e)]
    exact e
  · rw [same b (I.hok.lt e)]
    exact e
  · rw [same b (I.hok.lt e), e]
    simp
  · exact HOk.laidN (putTs_ok (I.hok.kept k) n.1 n.2 hn few) (fun _ _ q => q) hnp ⟨by rw [List.length_map]; exact hl, out, c, vals, here⟩
end
end Fw
namespace Fw
open PySem PySem.Spec PyProof.Rows L2 PySem.W
def tSortC (K : PySem.W.Frag) (t : TA) : TE := fun σ H Q => t σ H fun vs H1 => ∃ (l : Addr) (xs : List Str) (m : Nat), vs = [V.ref l, V.int m] ∧ SqL K H1 l (xs.map V.str) ∧ xs.length ≤ 2 ∧ m ≤ xs.length ∧ Asc xs ∧
  ∀ (as : List Addr) (p : Addr), as.length = (combM xs m).length → as.Pairwise (fun a b : Addr => a < b) → (∀ a ∈ as, H1 a = none) → H1 p = none → putTs H1 as (combM xs m) p = none → Q (.ref p) (upd (putTs H1 as (combM xs m)) p (.lst (as.map V.ref)))
theorem vals_two {a : Addr} {m : Int} {us : List Value} (r : Vals [V.ref a, V.int m] us) : ∃ t, us = [.ref a, .int m t] := by
  cases r with
  | cons r t =>
    cases t with
    | cons r2 t =>
      cases t
      cases r
      obtain ⟨k, rfl⟩ := r2
      exact ⟨k, rfl⟩
theorem comb_ne {xs : List Str} {m : Nat} (hl : xs.length ≤ 2) (hml : m ≤ xs.length) (h : 2 ≤ (combM xs m).length) : ∀ c ∈ combM xs m, c ≠ [] := by
  match xs, hl with
  | [], _ =>
    have : m = 0 := Nat.le_zero.mp hml
    subst this
    simp [combM] at h
  | [x], _ =>
    match m, hml with
    | 0, _ => simp [combM] at h
    | 1, _ => simp [combM]
  | [x, y], _ =>
    match m, hml with
    | 0, _ => simp [combM] at h
    | 1, _ => simp [combM]
    | 2, _ => simp [combM]
theorem depth_strs : ∀ c : List Str, PyData.depthAll (c.map PyData.str) ≤ 1
  | [] => by simp [PyData.depthAll]
  | z :: c => by
    have := depth_strs c
    simp only [List.map_cons, PyData.depthAll, PyData.depth]
    omega
theorem newC_lt {lo : Nat} {hp : Heap} {as : List Addr} {cs : List (List Str)} (h : EachIs (fun (a : Addr) (c : List Str) => lo ≤ a ∧ ∃ vs, hp.get? a = some (tupO vs) ∧ Vals (c.map V.str) vs) as cs) : ∀ a ∈ as, a < hp.objs.size := by
  induction h with
  | nil => exact fun a h => by cases h
  | cons h _ ih =>
    intro a ha
    rcases List.mem_cons.mp ha with rfl | ha
    · obtain ⟨_, vs, e, _⟩ := h
      exact Heap.lt_size e
    · exact ih a ha
section
variable {X : Cx} {e f : Expr} {pos p p2 q : Pos} {t : TA}
theorem call_sortC (calm : X.calm = true) (hu : X.A.units + 64 < cLine) {pins : List (Addr × Obj)} {σ : L2.St} {H1 : Hp} {s1 : Shared} (I1 : Inv X pins σ H1 s1) {l : Addr} {xs : List Str} {m : Nat} {k : Tok} {Q : VK} {E : Value → Shared → Prop} (hq : SqL X.K H1 l (xs.map V.str)) (hl : xs.length ≤ 2) (hml : m ≤ xs.length) (hs : Asc xs)
    (h : ∀ (as : List Addr) (p : Addr), as.length = (combM xs m).length → as.Pairwise (fun a b : Addr => a < b) → (∀ a ∈ as, H1 a = none) → H1 p = none → putTs H1 as (combM xs m) p = none → Q (.ref p) (upd (putTs H1 as (combM xs m)) p (.lst (as.map V.ref)))) :
    wpAny (model X.prog X.w) X.A (call (.type "itertools.combinations") [.ref l, .int m k]) (fun v s2 => wpAny (model X.prog X.w) X.A (call (.builtin "sorted") [v]) (fun v s' => ∃ x H', Inv X pins σ H' s' ∧ RelV x v ∧ Q x H') E s2) E s1 := by
  obtain ⟨its, rv, lst, big⟩ := I1.list hq
  have len : its.length = xs.length := by rw [← rv.length, List.length_map]
  obtain ⟨r, ch, rl, ev⟩ := comb_vals rv hl hml
  obtain ⟨cl, ci⟩ := comb_lens hl hml
  refine call_comb (Nat.le_trans hml (Nat.le_trans hl (by decide))) lst.isList (by rw [len]; exact Nat.le_trans hl (by decide)) (by rw [len]; exact hml) fun h' pool k1 k2 k3 k4 k5 => ?_
  refine sorted_any (fun s2 ws => ∃ (hp : Heap) (as : List Addr), s2 = { s1 with heap := hp } ∧ ws = as.map Value.ref ∧ NewC s1.heap.objs.size hp as (combM xs m) ∧ (∀ b o, s1.heap.get? b = some o → hp.get? b = some o) ∧ s1.heap.objs.size ≤ hp.objs.size) (fun P' E' kk => ?_) fun s2 ws ok => ?_
  · refine collect_comb (s := { s1 with heap := h' }) (A := X.A.in1) (I1.ok.hd calm) (Nat.ne_of_lt (Nat.lt_succ_self _)) (by rw [List.length_range]; exact Nat.le_trans hml (Nat.le_trans hl (by decide))) ch k2 k1 (Nat.le_trans (Nat.add_le_add_left rl 1) (by decide)) fun hp as n1 n2 n3 => ?_
    have n1' := newC_of n1 ev
    refine kk _ _ ⟨hp, as, rfl, rfl, ⟨n1'.1.mono fun a c z => ⟨Nat.le_trans k4 z.1, z.2⟩, n1'.2⟩, fun b o ho => ?_, Nat.le_trans k4 n3⟩
    refine n2 b o (fun z => ?_) (k5 b o ho)
    have := Heap.lt_size ho
    rw [z] at this
    exact Nat.lt_irrefl _ (Nat.lt_of_lt_of_le this (Nat.le_trans k3 (Nat.le_succ _)))
  · obtain ⟨hp, as, rfl, rfl, n, keep, sz⟩ := ok
    have al : as.length = (combM xs m).length := n.1.length
    obtain ⟨e1, e2⟩ := each_rel n.1
    have snd := bsC_snd al
    have bl : (bsC as (combM xs m)).length = as.length := by
      have := congrArg List.length (bsC_fst al)
      rw [List.length_map, List.length_map] at this
      exact this
    refine ⟨bsC as (combM xs m), e1, fun h2 => ⟨e2, ?_, ?_⟩, by rw [bl, al]; exact Nat.le_trans cl (by decide), fun b hb => ?_, fun hp2 out c ho here old2 => ?_⟩
    · rw [snd]
      exact AllAlike.of fun a b => alike_strs a b
    · rw [snd]
      refine .inl fun d hd => ?_
      obtain ⟨c, hc, rfl⟩ := List.mem_map.mp hd
      rw [bl, al] at h2
      cases c with
      | nil => exact absurd rfl (comb_ne hl hml h2 [] hc)
      | cons z r => exact ⟨_, _, rfl⟩
    · have hd : b.2 ∈ (bsC as (combM xs m)).map (·.2) := List.mem_map_of_mem hb
      rw [snd] at hd
      obtain ⟨c, hc, e⟩ := List.mem_map.mp hd
      have dc := depth_strs c
      have : b.2.depth ≤ 2 := by
        rw [← e]
        simp only [PyData.depth]
        omega
      show X.A.units + 2 + b.2.depth < cLine
      omega
    · rw [bsC_sorted hl hml hs al] at ho
      have vals := vals_each ho
      rw [bsC_fst al] at vals
      have ge := newC_ge n.1
      have np : hp.objs.size ∉ as := fun z => Nat.lt_irrefl _ (newC_lt n.1 _ z)
      obtain ⟨J, hn, hnp⟩ := inv_combs I1 (s2 := { s1 with heap := hp2 }) rfl rfl (fun b o ho => old2 b o (keep b o ho)) (cs := combM xs m) ⟨n.1.mono fun a c ⟨z1, vs, z2, z3⟩ => ⟨z1, vs, old2 _ _ z2, z3⟩, n.2⟩ ci sz np here vals (by rw [al]; exact Nat.le_trans cl (by decide))
      exact ⟨.ref _, _, J, rfl, h as _ al n.2 hn (I1.hok.fresh sz) hnp⟩
/-- sorted(combinations(e, f)) -/
theorem pe_sortC (calm : X.calm = true) (hu : X.A.units + 64 < cLine) (hm : X.mg "sorted" = none) (hC : X.mg "combinations" = some (.type "itertools.combinations")) (hg : Gl X "sorted") (hg2 : Gl X "combinations") (ha : PA X [e, f] t)
    (he : starEach [e, f] X.env = (false, eval e X.env) :: starEach [f] X.env) (he2 : starEach [.Call (.Name "combinations" p2) [e, f] [] q] X.env = (false, eval (.Call (.Name "combinations" p2) [e, f] [] q) X.env) :: starEach [] X.env) (hpl : (backTo q (starEach [f] X.env)).any (·.1) = false) (hpl2 : (backTo pos (starEach [] X.env)).any (·.1) = false) :
    PE X (.Call (.Name "sorted" p) [.Call (.Name "combinations" p2) [e, f] [] q] [] pos) (tSortC X.K t) := by
  refine ⟨fun pins s σ H Q I h => ?_⟩
  refine wpAny_Call_Name_kw (ld_blt I hg hm (u := .builtin "sorted") (by decide +kernel) ?_ (by decide) (by decide))
  refine PyProof.Rows.callWith_builtin1 (PyProof.Rows.args_cons ?_ he2) he2 hpl2
  refine wpAny_Call_Name_kw (ld_glob I hg2 hC ?_ (by decide))
  refine PyProof.Rows.callWith_type1 (thn (ha.run q pins s σ H _ I h) fun us s1 ⟨vs, H1, I1, r1, l, xs, m, e1, hq, hl, hml, hs, q1⟩ => ?_) he hpl
  subst e1
  obtain ⟨k, rfl⟩ := vals_two r1
  refine wpAny_mono (call_sortC calm hu I1 hq hl hml hs q1) (fun v s2 z => ?_) fun _ _ z => z
  exact PyProof.Rows.args_nil z
variable {ss : List Slot}
/-- sorted(combinations(e, m)), e a sorted list of two texts at most -/
theorem eo_sortC {xs : List Str} {m : Nat} (calm : X.calm = true) (hu : X.A.units + 64 < cLine) (hm : X.mg "sorted" = none) (hC : X.mg "combinations" = some (.type "itertools.combinations")) (hg : Gl X "sorted") (hg2 : Gl X "combinations") (ha : EE X ss e (.lst (xs.map .str))) (hb : EE X ss f (.int m)) (hs : Asc xs) (hl : xs.length ≤ 2) (hml : m ≤ xs.length)
    (he : starEach [e, f] X.env = (false, eval e X.env) :: starEach [f] X.env) (he1 : starEach [f] X.env = (false, eval f X.env) :: starEach [] X.env) (he2 : starEach [.Call (.Name "combinations" p2) [e, f] [] q] X.env = (false, eval (.Call (.Name "combinations" p2) [e, f] [] q) X.env) :: starEach [] X.env) (hpl : (backTo q (starEach [f] X.env)).any (·.1) = false) (hpl2 : (backTo pos (starEach [] X.env)).any (·.1) = false) :
    EO X ss (.Call (.Name "sorted" p) [.Call (.Name "combinations" p2) [e, f] [] q] [] pos) ((combM xs m).map eLot) := fun H0 G H σ i s Q k =>
  wE.of (pe_sortC calm hu hm hC hg hg2 (pa_cons pe_w (pa_cons pe_w pa_nil he1) he) he he2 hpl hpl2) (ha H0 G H σ i s _ fun v G1 H1 g1 r1 => hb H0 G1 H1 σ g1.i (s.grow g1) _ fun v2 G2 H2 g2 r2 => by
    cases r2
    cases r1 with
    | lst sq r =>
      have e := r.strs
      subst e
      refine ⟨_, xs, m, rfl, SqL.of (g2.i _ _ (g2.g _ _ sq)), hl, hml, hs, fun as p al pw hn hp0 hp => ?_⟩
      have g3 := (g1.trans g2).trans (putTs_grow g2.i hn pw (cs := combM xs m))
      exact k p _ _ _ ((g1.trans g2).h.back hp0) (g3.trans (.hid g3.i hp)) (g3.i.back hp) upd_same (putTs_at al pw))
end
end Fw
namespace Fw
open PySem PySem.Spec PyProof.Rows L2 PySem.W
section
variable {X : Cx} {ss : List Slot} {e f : Expr} {pos p p2 q : Pos}
/-- sorted(combinations(e, m)), e a sorted list of two texts at most -/
theorem eo_sortComb {xs : List Str} {m : Nat} (hm : X.mg "sorted" = none) (hC : X.mg "combinations" = some (.type "itertools.combinations")) (hu : X.A.units + 64 < cLine) (ha : EE X ss e (.lst (xs.map .str))) (hb : EE X ss f (.int m)) (hx : ∀ x ∈ xs, PyData.strOk x = true) (hs : Asc xs) (hl : xs.length ≤ 2) (hml : m ≤ xs.length) (hc : X.calm = true := by rfl) (hg : Gl X "sorted" := by rfl) (hg2 : Gl X "combinations" := by rfl)
    (he : starEach [e, f] X.env = (false, eval e X.env) :: starEach [f] X.env := by first | kernel_rfl! | rfl) (he1 : starEach [f] X.env = (false, eval f X.env) :: starEach [] X.env := by first | kernel_rfl! | rfl) (he2 : starEach [.Call (.Name "combinations" p2) [e, f] [] q] X.env = (false, eval (.Call (.Name "combinations" p2) [e, f] [] q) X.env) :: starEach [] X.env := by first | kernel_rfl! | rfl) (hpl : (backTo q (starEach [f] X.env)).any (·.1) = false := by first | kernel_rfl! | rfl) (hpl2 : (backTo pos (starEach [] X.env)).any (·.1) = false := by first | kernel_rfl! | rfl) :
    EO X ss (.Call (.Name "sorted" p) [.Call (.Name "combinations" p2) [e, f] [] q] [] pos) ((combM xs m).map eLot) := eo_sortC hc hu hm hC hg hg2 ha hb hs hl hml he he1 he2 hpl hpl2
end
end Fw
namespace Fw
open PySem PySem.Spec PyProof.Rows L2 PySem.W
section
variable {X : Cx} {ss : List Slot} {e : Expr} {pos p p2 q : Pos}
/-- sorted(l), l a list of no item or one -/
def rSort1 (K : PySem.W.Frag) : List V → Hp → VK → Prop := fun vs H Q => ∃ (a : Addr) (xs : List V), vs = [V.ref a] ∧ SqL K H a xs ∧ xs.length < 2 ∧ ∀ p, H p = none → Q (.ref p) (upd H p (.lst xs))
theorem each_pair : ∀ {xs : List V} {us : List Value}, Vals xs us → EachIs (fun u (b : V × PyData) => RelV b.1 u) us (xs.map fun x => (x, PyData.none))
  | _, _, .nil => .nil
  | _, _, .cons r t => .cons r (each_pair t)
theorem few_sort (bs : List (V × PyData)) (h : bs.length < 2) : bs.mergeSort (dataLe false (·.2)) = bs := by
  match bs, h with
  | [], _ => rw [List.mergeSort_nil]
  | [_], _ => rw [List.mergeSort_singleton]
theorem pair_fst : ∀ xs : List V, (xs.map fun x => (x, PyData.none)).map (fun b : V × PyData => b.1) = xs
  | [] => rfl
  | x :: xs => by rw [List.map_cons, List.map_cons, pair_fst xs]
theorem cr_sort1 (hu : X.A.units + 64 < cLine) : CallR X (.builtin "sorted") (rSort1 X.K) := by
  intro pins s σ H vs us Q I r h
  obtain ⟨a, xs, rfl, hl, few, q⟩ := h
  obtain ⟨its, rv, lst, big⟩ := I.list hl
  rw [Vals.ref1 r]
  have len : its.length = xs.length := rv.length.symm
  refine sorted_any (fun s1 ws => ws = its ∧ ∃ hp : Heap, s1 = { s with heap := hp } ∧ (∀ b o, s.heap.get? b = some o → hp.get? b = some o) ∧ s.heap.objs.size ≤ hp.objs.size) (fun P' E' k => ?_) fun s1 ws ok => ?_
  · refine collect_list lst.isList (k _ _ ⟨rfl, _, rfl, fun b o ho => ?_, ?_⟩) (by rw [len]; exact big)
    · rw [Heap.get?_update_ne _ _ _ _ (Nat.ne_of_lt (Heap.lt_size ho))]
      exact Heap.get?_push_of_some _ ho
    · rw [Heap.size_update, size_push']
      exact Nat.le_succ _
  · obtain ⟨rfl, hp, rfl, k1, k2⟩ := ok
    refine ⟨xs.map fun x => (x, PyData.none), each_pair rv, fun h => ?_, by rw [List.length_map]; exact Nat.le_trans (Nat.le_of_lt few) (by decide), fun b hb => ?_, fun hp2 out c ho here keep => ?_⟩
    · rw [List.length_map] at h
      omega
    · obtain ⟨x, _, rfl⟩ := List.mem_map.mp hb
      have : PyData.none.depth ≤ 1 := by simp [PyData.depth]
      show X.A.units + 2 + PyData.none.depth < cLine
      omega
    · rw [few_sort _ (by rw [List.length_map]; exact few)] at ho
      have vals := vals_each ho
      rw [pair_fst] at vals
      obtain ⟨J, hn⟩ := inv_list I (s1 := { s with heap := hp }) k1 k2 rfl rfl vals (Nat.le_trans (Nat.le_of_lt few) (by decide)) here keep
      exact ⟨.ref _, _, J, rfl, q _ hn⟩
/-- sorted(e), e a list with the empty tuple alone -/
theorem eo_sortUnit (hm : X.mg "sorted" = none) (hu : X.A.units + 64 < cLine) (ha : EE X ss e (.lst [.tup []])) (hg : Gl X "sorted" := by rfl) (he : starEach [e] X.env = (false, eval e X.env) :: starEach [] X.env := by rfl) (hpl : (backTo pos (starEach [] X.env)).any (·.1) = false := by rfl) :
    EO X ss (.Call (.Name "sorted" p) [e] [] pos) [.tup []] :=
  eo_B (cr_sort1 hu) hm (by decide +kernel) (ea_cons ha ea_nil he) (fun G H vs i r Q k => by
    cases r with
    | cons r t =>
      cases t
      cases r with
      | lst sq r => exact ⟨_, _, rfl, SqL.of (i _ _ sq), by rw [r.length]; decide, fun a hn => GivO.new k i hn r⟩) hg (by decide) (by decide) he hpl
theorem sortL_unit : sortL [[]] = [[]] := by unfold sortL; rw [List.mergeSort_singleton]
theorem eo_sortLots1 {xs : List (List Str)} (hm : X.mg "sorted" = none) (hu : X.A.units + 64 < cLine) (ha : EE X ss e (.lst (xs.map eLot))) (hx : ∀ l ∈ xs, ∀ z ∈ l, PyData.strOk z = true) (hn : (∀ l ∈ xs, l ≠ []) ∨ xs = [[]]) (hg : Gl X "sorted" := by rfl) (he : starEach [e] X.env = (false, eval e X.env) :: starEach [] X.env := by rfl) (hpl : (backTo pos (starEach [] X.env)).any (·.1) = false := by rfl) :
    EO X ss (.Call (.Name "sorted" p) [e] [] pos) ((sortL xs).map eLot) := by
  rcases hn with hn | rfl
  · exact eo_sortLots hm hu ha (fun l hl => ⟨hx l hl, hn l hl⟩) hg he hpl
  · rw [sortL_unit]
    exact eo_sortUnit hm hu ha hg he hpl
end
end Fw
namespace Fw
open PySem PySem.Spec PyProof.Rows L2
/-- a class whose instances' fields are found -/
structure Own (K : PySem.W.Frag) (C : Addr) (ns : List Str) : Prop where
  cl : Cls K C
  na : ∀ f ∈ ns, NoAttr K C f
def stepNs : List Str := ["standing", "done", "refused", "moments"]
def gearNs : List Str := ["home", "patience", "turns", "effects", "responses", "series"]
def turnNs : List Str := ["gears", "mode", "lot", "row", "place", "left", "silence", "done", "refused", "moments"]
def dGears (CG : Addr) (b : Book) : D := .ins CG gearNs [.str (homeM b), eOptI b.quiet, .dk (b.modes.map fun m => .inr m.nm) (b.modes.map fun m => .tup [eLot m.von, eLot m.voff]), .dk (b.cmds.map fun c => .inr c.nm) (b.cmds.map fun c => .tup [eLot c.ms, eLot c.von, eLot c.voff, eOpt c.to]),
  .lst (b.alms.map fun a => .tup [.str a.nm, .tup [eLot a.von, eLot a.voff, eOpt a.to]]), .dk (b.rows.map fun r => .inr r.nm) (b.rows.map fun r => .tup (r.steps.map eStep))]
def dStep (CS : Addr) (t : TSt) : D := .ins CS stepNs [eStg t.s, eStrs t.done, eStrs t.refused, .lst (t.mom.map eLot)]
def turnF (CG : Addr) (b : Book) (t : TSt) (a1 a2 a3 : Addr) : List (Str × Fld) := [("gears", .im (dGears CG b)), ("mode", .im (.str t.s.mode)), ("lot", .im (eLot t.s.lot)), ("row", .im (eOpt t.s.row)), ("place", .im (.int t.s.place)), ("left", .im (.int t.s.left)), ("silence", .im (.int t.s.sil)),
  ("done", .ow a1 (t.done.map .str)), ("refused", .ow a2 (t.refused.map .str)), ("moments", .ow a3 (t.mom.map eLot))]
section
variable {P : Program} {w : World} {K : PySem.W.Frag} {mg : Str → Option Value} {base : Heap}
def T_turned (ds : List D) (d : D) : Prop := ∃ l on off holds, (∀ z ∈ holds, IsNm z) ∧ holds.length ≤ 100 ∧ LotOf l holds ∧ Turned on off holds ∧ ds = [eLot l, eLot on, eLot off] ∧ d = eLot (turnedM l on off)
theorem c_turned {f : Addr} {fd : FuncData} (F : C8.Def K mg "turned" (top 29) f fd) (b : Binds K fd ["holds", "on", "off"] []) (B : Bt mg) : C8.Cal P w K mg base 1 "turned" (spP ⟨P, w, K⟩ T_turned) [] := by
  have S : FnScope ["holds", "on", "off", "hold"] ["holds", "on", "off"] (C8.fnScope (top 29)) := C8.fnScope_by (by decide +kernel)
  refine calP T_turned F b S (fun ds d ⟨_, _, _, _, _, _, _, _, h, _⟩ => by rw [h]; rfl) (by decide) fun cdv A outer s H E hr ds d h => ?_
  obtain ⟨l, on, off, holds, hn, hf, hl, ht, rfl, rfl⟩ := h
  have l1 := hl.few
  have l2 := ht.von.few
  have hx : ∀ x ∈ (l.filter fun h => !decide (h ∈ off)) ++ on, PyData.strOk x = true := fun x hx => by
    rcases List.mem_append.mp hx with z | z
    · exact (hl.nm x (List.mem_filter.mp z).1).ok
    · exact (ht.von.nm x z).ok
  refine sd_cons (ss_ret (ee_tupleL B.tuple (EO.ee (eo_sortSetS B.sorted B.set hr.units (EO.ee (EO.cast (eo_cat (EO.ee (eo_lc (own := [("hold", 3)]) .str (fun h => !decide (h ∈ off)) .str (fun d => [(3, .str d)]) S.nd (blkOk_by (N := ["holds", "on", "off", "hold"]) (sc := C8.fnScope (top 29)) (by decide +kernel)) (ei_tup (ee_var 0 rfl)) (by omega) (fun d hd s H C cl fp => gd_name 3 S.nd) (by simp) (fun d hd s H C cl fp => ets_one (et_c2 cmp_ninT (ee_var 3 rfl) (ee_var 2 rfl))) (fun d hd _ s H C cl fp => ee_var 3 rfl))) (EO.ee (eo_listT B.list (ee_var 1 rfl))) ?_) (by rw [List.map_append]))) hx ?_)))
    rfl)
  · have := List.length_filter_le (fun h => !decide (h ∈ off)) l
    simp only [List.length_map]
    omega
  · have := List.length_filter_le (fun h => !decide (h ∈ off)) l
    rw [List.length_append]
    omega
end
end Fw
namespace Fw
open PySem PySem.Spec PyProof.Rows L2
section
variable {P : Program} {w : World} {K : PySem.W.Frag} {mg : Str → Option Value} {base : Heap} {CS CG CT : Addr}
def stepF (t : TSt) (a1 a2 a3 : Addr) : List (Str × Fld) := [("standing", .im (eStg t.s)), ("done", .ow a1 (t.done.map .str)), ("refused", .ow a2 (t.refused.map .str)), ("moments", .ow a3 (t.mom.map eLot))]
def T_Step (ds : List D) (R : List (Str × Fld) → Prop) : Prop := ∃ t, ds = [eStg t.s, eStrs t.done, eStrs t.refused, .lst (t.mom.map eLot)] ∧ R = fun fs => ∃ a1 a2 a3, fs = stepF t a1 a2 a3
theorem k_Step {f : Addr} {fd : FuncData} (M : Mk K CS f) (hm : mg "Step" = some (.ref CS)) (F : C8.Fun K "__init__" "Step.__init__" (mth 27 0) f fd) (b : Binds K fd ["self", "standing", "done", "refused", "moments"] []) (B : Bt mg) (o : Own K CS stepNs) : C8.Mak P w K mg base 1 "Step" CS (spI ⟨P, w, K⟩ CS T_Step) [] := by
  have S : FnScope ["self", "standing", "done", "refused", "moments"] ["self", "standing", "done", "refused", "moments"] (C8.fnScope (mth 27 0)) := C8.fnScope_by (by decide +kernel)
  refine makI T_Step M hm F b S (fun ds fs ⟨_, h, _⟩ => by rw [h]; rfl) (by decide) fun cdv A outer s H E hr p ds R h => ?_
  obtain ⟨t, rfl, rfl⟩ := h
  refine sd_cons (ss_fld 0 rfl (ee_var 1 rfl) (sd_cons (ss_fldO 0 rfl (eo_listL B.list (ee_var 2 rfl)) (fun a1 => sd_cons (ss_fldO 0 rfl (eo_listL B.list (ee_var 3 rfl)) (fun a2 => sd_cons (ss_fldO 0 rfl (eo_listL B.list (ee_var 4 rfl)) (fun a3 => sd_nil ?_) o.cl (o.na _ (by decide)))) o.cl (o.na _ (by decide)))) o.cl (o.na _ (by decide)))) o.cl (o.na _ (by decide)))
  exact ⟨_, rfl, a1, a2, a3, rfl⟩
def T_Turn (ds : List D) (R : List (Str × Fld) → Prop) : Prop := ∃ (g d1 d2 d3 d4 d5 d6 : D), ds = [g, .tup [d1, d2, d3, d4, d5, d6]] ∧ R = fun fs => ∃ (a1 a2 a3 : Addr), fs = ([("gears", .im g), ("mode", .im d1), ("lot", .im d2), ("row", .im d3), ("place", .im d4), ("left", .im d5), ("silence", .im d6), ("done", .ow a1 []), ("refused", .ow a2 []), ("moments", .ow a3 [])] : List (Str × Fld))
theorem k_Turn {f : Addr} {fd : FuncData} (M : Mk K CT f) (hm : mg "Turn" = some (.ref CT)) (F : C8.Fun K "__init__" "Turn.__init__" (mth 30 0) f fd) (b : Binds K fd ["self", "gears", "standing"] []) (o : Own K CT turnNs) : C8.Mak P w K mg base 1 "Turn" CT (spI ⟨P, w, K⟩ CT T_Turn) [] := by
  have S : FnScope ["self", "gears", "standing"] ["self", "gears", "standing"] (C8.fnScope (mth 30 0)) := C8.fnScope_by (by decide +kernel)
  refine makI T_Turn M hm F b S (fun ds fs ⟨_, _, _, _, _, _, _, h, _⟩ => by rw [h]; rfl) (by decide) fun cdv A outer s H E hr p ds R h => ?_
  obtain ⟨g, d1, d2, d3, d4, d5, d6, rfl, rfl⟩ := h
  refine sd_cons (ss_fld 0 rfl (ee_var 1 rfl) (sd_cons (ss_attrs 0 (ns := ["mode", "lot", "row", "place", "left", "silence"]) rfl (ee_var 2 rfl) (.cons (o.na _ (by decide)) (.cons (o.na _ (by decide)) (.cons (o.na _ (by decide)) (.cons (o.na _ (by decide)) (.cons (o.na _ (by decide)) (.cons (o.na _ (by decide)) .nil)))))) rfl
    (sd_cons (ss_fldO 0 rfl (eo_lst ea_nil) (fun a1 => sd_cons (ss_fldO 0 rfl (eo_lst ea_nil) (fun a2 => sd_cons (ss_fldO 0 rfl (eo_lst ea_nil) (fun a3 => sd_nil ?_) o.cl (o.na _ (by decide)))) o.cl (o.na _ (by decide)))) o.cl (o.na _ (by decide)))) o.cl)) o.cl (o.na _ (by decide)))
  exact ⟨_, rfl, a1, a2, a3, rfl⟩
end
end Fw
namespace Fw
open PySem PySem.Spec PyProof.Rows L2
theorem dkD_map {α : Type} (nm : α → Str) (g : α → D) (x : Str) : ∀ l : List α, dkD (.inr x) (l.map fun m => .inr (nm m)) (l.map g) = (l.find? fun m => decide (nm m = x)).map g
  | [] => rfl
  | m :: r => by
    rw [List.map_cons, List.map_cons, dkD, List.find?_cons, dkD_map nm g x r]
    by_cases h : nm m = x
    · rw [if_pos (by rw [h]), decide_eq_true h]
      rfl
    · rw [if_neg (fun z => h (Sum.inr.inj z)), decide_eq_false h]
theorem Rm.u1 {k : Nat} {A : Around} (r : Room k A) : A.units + 1 < cLine := by have := r.un; omega
section
variable {P : Program} {w : World} {K : PySem.W.Frag} {mg : Str → Option Value} {base : Heap} {CS CG CT : Addr}
def T_effect (CG : Addr) (fs : List (Str × Fld)) (ds : List D) (d : D) (fs' : List (Str × Fld)) : Prop := ∃ b t a1 a2 a3 on off, ∃ to : Option Str, BOk b ∧ LotOf t.s.lot b.holds ∧ Turned on off b.holds ∧ (∀ x, to = some x → x ∈ b.modes.map Mode.nm) ∧ t.mom.length ≤ 1000 ∧ fs = turnF CG b t a1 a2 a3 ∧ ds = [eLot on, eLot off, eOpt to] ∧ d = .non ∧ fs' = turnF CG b (effM b t on off to) a1 a2 a3
theorem m_effect {f : Addr} {fd : FuncData} (me : Meth K CT "effect" f) (F : C8.Fun K "effect" "Turn.effect" (mth 30 1) f fd) (b : Binds K fd ["self", "on", "off", "to"] []) (o : Own K CT turnNs) (og : Own K CG gearNs) (c1 : C8.Cal P w K mg base 1 "turned" (spP ⟨P, w, K⟩ T_turned) []) : C8.Met P w K mg base 2 CT "effect" (spM ⟨P, w, K⟩ CT (T_effect CG)) [] := by
  have S : FnScope ["self", "on", "off", "to"] ["self", "on", "off", "to"] (C8.fnScope (mth 30 1)) := C8.fnScope_by (by decide +kernel)
  refine metM (T_effect CG) o.cl me F b S (fun fs ds d fs' ⟨_, _, _, _, _, _, _, _, _, _, _, _, _, _, h, _⟩ => by rw [h]; rfl) (by decide) fun cdv A outer s H E hr p fs ds d fs' h => ?_
  obtain ⟨bb, t, a1, a2, a3, on, off, to, hb, hl, ht, hto, hm, rfl, rfl, rfl, rfl⟩ := h
  have hl1 := turnedM_lot hb.hn hb.hf hl ht
  refine sd_cons (ss_fld 0 rfl (ee_call c1 hr (by decide) (ea_cons (ee_fldO 0 rfl rfl o.cl (o.na "lot" (by decide))) (ea_cons (ee_var 1 rfl) (ea_cons (ee_var 2 rfl) ea_nil))) ⟨t.s.lot, on, off, bb.holds, hb.hn, hb.hf, hl, ht, rfl, rfl⟩) ?_ o.cl (o.na _ (by decide)))
  cases to with
  | none =>
    refine sd_cons (ss_if (x := false) (et_c2 cmp_notN (ee_var 3 rfl) ee_non) (fun h => nomatch h) fun _ => sd_nil ?_)
    refine sd_cons (ss_fldapp 0 (f := "moments") (l := a3) rfl rfl (ee_fldO 0 rfl rfl o.cl (o.na "lot" (by decide))) (by rw [List.length_map]; omega) (sd_nil ⟨rfl, ?_⟩) o.cl (o.na _ (by decide)))
    unfold effM turnF lotM
    simp only [List.map_append, Option.bind]
    rfl
  | some x =>
    obtain ⟨m, em⟩ := mode?_of (hto x rfl)
    have htu := (hb.mt m (mode?_some em).1).2
    have hg : dkD (.inr x) (bb.modes.map fun m => .inr m.nm) (bb.modes.map fun m => .tup [eLot m.von, eLot m.voff]) = some (.tup [eLot m.von, eLot m.voff]) := by
      rw [dkD_map Mode.nm]
      show (bb.mode? x).map _ = _
      rw [em]
      rfl
    refine sd_cons (ss_if (x := true) (et_c2 cmp_notN (ee_var 3 rfl) ee_non) (fun _ => ?_) (fun h => nomatch h))
    refine sd_cons (ss_fld 0 rfl (ee_var 3 rfl) (sd_cons (ss_fld 0 rfl (ee_call c1 hr (by decide) (ea_cons (ee_fldO 0 rfl rfl o.cl (o.na "lot" (by decide))) (ea_cons (ee_ixT (i := 0) (ee_dget (k := .inr x) (Rm.u1 hr) (ee_fld (ee_fldO 0 rfl rfl o.cl (o.na "gears" (by decide))) og.cl (og.na "turns" (by decide)) rfl) (ee_var 3 rfl) hg) ee_int rfl) (ea_cons (ee_ixT (i := 1) (ee_dget (k := .inr x) (Rm.u1 hr) (ee_fld (ee_fldO 0 rfl rfl o.cl (o.na "gears" (by decide))) og.cl (og.na "turns" (by decide)) rfl) (ee_var 3 rfl) hg) ee_int rfl) ea_nil)))
      ⟨turnedM t.s.lot on off, m.von, m.voff, bb.holds, hb.hn, hb.hf, hl1, htu, rfl, rfl⟩) (sd_nil ?_) o.cl (o.na _ (by decide)))) o.cl (o.na _ (by decide)))
    refine sd_cons (ss_fldapp 0 (f := "moments") (l := a3) rfl rfl (ee_fldO 0 rfl rfl o.cl (o.na "lot" (by decide))) (by rw [List.length_map]; omega) (sd_nil ⟨rfl, ?_⟩) o.cl (o.na _ (by decide)))
    have e1 : lotM bb t.s.lot on off (some x) = turnedM (turnedM t.s.lot on off) m.von m.voff := by
      unfold lotM
      simp only [Option.bind, em]
    unfold effM turnF
    rw [e1]
    simp only [List.map_append]
    rfl
end
end Fw
namespace Fw
open PySem PySem.Spec PyProof.Rows L2
section
variable {P : Program} {w : World} {K : PySem.W.Frag} {mg : Str → Option Value} {base : Heap} {CS CG CT : Addr}
def T_halt (CG : Addr) (fs : List (Str × Fld)) (ds : List D) (d : D) (fs' : List (Str × Fld)) : Prop := ∃ b t a1 a2 a3, fs = turnF CG b t a1 a2 a3 ∧ ds = [] ∧ d = .non ∧ fs' = turnF CG b (haltM t) a1 a2 a3
theorem m_halt {f : Addr} {fd : FuncData} (me : Meth K CT "halt" f) (F : C8.Fun K "halt" "Turn.halt" (mth 30 2) f fd) (b : Binds K fd ["self"] []) (o : Own K CT turnNs) : C8.Met P w K mg base 1 CT "halt" (spM ⟨P, w, K⟩ CT (T_halt CG)) [] := by
  have S : FnScope ["self"] ["self"] (C8.fnScope (mth 30 2)) := C8.fnScope_by (by decide +kernel)
  refine metM (T_halt CG) o.cl me F b S (fun fs ds d fs' ⟨_, _, _, _, _, _, h, _⟩ => by rw [h]; rfl) (by decide) fun cdv A outer s H E hr p fs ds d fs' h => ?_
  obtain ⟨bb, t, a1, a2, a3, rfl, rfl, rfl, rfl⟩ := h
  exact sd_cons (ss_attrs 0 (ns := ["row", "place", "left"]) rfl (ee_tup (ea_cons ee_non (ea_cons ee_int (ea_cons ee_int ea_nil)))) (.cons (o.na _ (by decide)) (.cons (o.na _ (by decide)) (.cons (o.na _ (by decide)) .nil))) rfl (sd_nil ⟨rfl, rfl⟩) o.cl)
def T_begin (CG : Addr) (fs : List (Str × Fld)) (ds : List D) (d : D) (fs' : List (Str × Fld)) : Prop := ∃ b t a1 a2 a3 r, ∃ p : Nat, ∃ ww : Row, b.row? r = some ww ∧ p ≤ ww.steps.length ∧ fs = turnF CG b t a1 a2 a3 ∧ ds = [.str r, .int p] ∧ d = .non ∧ fs' = turnF CG b (beginM b t r p) a1 a2 a3
theorem series_of {b : Book} {r : Str} {ww : Row} (h : b.row? r = some ww) : dkD (.inr r) (b.rows.map fun m => .inr m.nm) (b.rows.map fun r => .tup (r.steps.map eStep)) = some (.tup (ww.steps.map eStep)) := by
  rw [dkD_map Row.nm]
  show (b.row? r).map _ = _
  rw [h]
  rfl
theorem m_begin {f : Addr} {fd : FuncData} (me : Meth K CT "begin" f) (F : C8.Fun K "begin" "Turn.begin" (mth 30 3) f fd) (b : Binds K fd ["self", "row", "place"] []) (o : Own K CT turnNs) (og : Own K CG gearNs) (B : Bt mg) (c1 : C8.Met P w K mg base 1 CT "halt" (spM ⟨P, w, K⟩ CT (T_halt CG)) []) : C8.Met P w K mg base 2 CT "begin" (spM ⟨P, w, K⟩ CT (T_begin CG)) [] := by
  have S : FnScope ["self", "row", "place", "steps"] ["self", "row", "place"] (C8.fnScope (mth 30 3)) := C8.fnScope_by (by decide +kernel)
  refine metM (T_begin CG) o.cl me F b S (fun fs ds d fs' ⟨_, _, _, _, _, _, _, _, _, _, _, h, _⟩ => by rw [h]; rfl) (by decide) fun cdv A outer s H E hr p fs ds d fs' h => ?_
  obtain ⟨bb, t, a1, a2, a3, r, pl, ww, hw, hp, rfl, rfl, rfl, rfl⟩ := h
  refine sd_cons (ss_asg 3 (ee_dget (k := .inr r) (Rm.u1 hr) (ee_fld (ee_fldO 0 rfl rfl o.cl (o.na "gears" (by decide))) og.cl (og.na "series" (by decide)) rfl) (ee_var 1 rfl) (series_of hw)) ?_ S.nd)
  by_cases h : pl = ww.steps.length
  · refine sd_cons (ss_if (x := true) (ET.cast (et_c2 cmp_eqI (ee_var 2 rfl) (ee_lenT B.len (ee_var 3 rfl))) ?_) (fun _ => ?_) fun h => nomatch h)
    · rw [List.length_map, h]
      exact decide_eq_true rfl
    · refine sd_cons (ss_exprF (ef_meth0 0 c1 hr (by decide) rfl ⟨bb, t, a1, a2, a3, rfl, rfl, rfl, rfl⟩ rfl) (sd_nil (sd_nil ⟨rfl, ?_⟩)))
      have e : beginM bb t r pl = haltM t := by
        unfold beginM
        rw [hw, Option.bind_some, List.getElem?_eq_none (by omega)]
      rw [e]
      rfl
  · have hlt : pl < ww.steps.length := by omega
    refine sd_cons (ss_if (x := false) (ET.cast (et_c2 cmp_eqI (ee_var 2 rfl) (ee_lenT B.len (ee_var 3 rfl))) ?_) (fun h => nomatch h) (fun _ => ?_))
    · rw [List.length_map]
      exact decide_eq_false (by omega)
    · have e1 : ww.steps[pl]? = some ww.steps[pl] := List.getElem?_eq_getElem hlt
      have e2 : atI (ww.steps.map eStep) (pl : Int) = some (eStep ww.steps[pl]) := atI_nat (by rw [List.getElem?_map, e1]; rfl)
      refine sd_cons (ss_attrs 0 (ns := ["row", "place", "left"]) rfl (ee_tup (ea_cons (ee_var 1 rfl) (ea_cons (ee_var 2 rfl) (ea_cons (ee_ixT (i := 0) (ee_ixT (i := (pl : Int)) (ee_var 3 rfl) (ee_var 2 rfl) e2) ee_int rfl) ea_nil)))) (.cons (o.na _ (by decide)) (.cons (o.na _ (by decide)) (.cons (o.na _ (by decide)) .nil))) rfl (sd_nil (sd_nil ⟨rfl, ?_⟩)) o.cl)
      have e : beginM bb t r pl = { t with s := { t.s with row := some r, place := pl, left := ww.steps[pl].1 } } := by
        unfold beginM
        rw [hw, Option.bind_some, e1]
      rw [e]
      rfl
def T_cmd (CG : Addr) (fs : List (Str × Fld)) (ds : List D) (d : D) (fs' : List (Str × Fld)) : Prop := ∃ b t a1 a2 a3 x, BOk b ∧ LotOf t.s.lot b.holds ∧ t.mom.length ≤ 1000 ∧ t.done.length ≤ 1000 ∧ x ∈ b.cmds.map Cmd.nm ∧ fs = turnF CG b t a1 a2 a3 ∧ ds = [.str x] ∧ d = .bl (cmdM b t x).1 ∧ fs' = turnF CG b (cmdM b t x).2 a1 a2 a3
theorem m_cmd {f : Addr} {fd : FuncData} (me : Meth K CT "command" f) (F : C8.Fun K "command" "Turn.command" (mth 30 4) f fd) (b : Binds K fd ["self", "name"] []) (o : Own K CT turnNs) (og : Own K CG gearNs) (c1 : C8.Met P w K mg base 2 CT "effect" (spM ⟨P, w, K⟩ CT (T_effect CG)) []) : C8.Met P w K mg base 3 CT "command" (spM ⟨P, w, K⟩ CT (T_cmd CG)) [] := by
  have S : FnScope ["self", "name", "modes", "on", "off", "to"] ["self", "name"] (C8.fnScope (mth 30 4)) := C8.fnScope_by (by decide +kernel)
  refine metM (T_cmd CG) o.cl me F b S (fun fs ds d fs' ⟨_, _, _, _, _, _, _, _, _, _, _, _, h, _⟩ => by rw [h]; rfl) (by decide) fun cdv A outer s H E hr p fs ds d fs' h => ?_
  obtain ⟨bb, t, a1, a2, a3, x, hb, hl, hm, hd, hx, rfl, rfl, rfl, rfl⟩ := h
  obtain ⟨c, hc⟩ := cmd?_of hx
  obtain ⟨_, h1, h2, _⟩ := hb.ct c (cmd?_some hc).1
  have hg : dkD (.inr x) (bb.cmds.map fun c => .inr c.nm) (bb.cmds.map fun c => .tup [eLot c.ms, eLot c.von, eLot c.voff, eOpt c.to]) = some (.tup [eLot c.ms, eLot c.von, eLot c.voff, eOpt c.to]) := by
    rw [dkD_map Cmd.nm]
    show (bb.cmd? x).map _ = _
    rw [hc]
    rfl
  refine sd_cons (ss_tup (ee_dget (k := .inr x) (Rm.u1 hr) (ee_fld (ee_fldO 0 rfl rfl o.cl (o.na "gears" (by decide))) og.cl (og.na "effects" (by decide)) rfl) (ee_var 1 rfl) hg) (gd_tup (gds_cons (gd_name 2 S.nd) (gds_cons (gd_name 3 S.nd) (gds_cons (gd_name 4 S.nd) (gds_cons (gd_name 5 S.nd) gds_nil))))) ?_)
  by_cases h : t.s.mode ∈ c.ms
  · have e : cmdM bb t x = (true, { effM bb t c.von c.voff c.to with done := t.done ++ [x] }) := by
      unfold cmdM
      rw [hc]
      exact if_pos h
    rw [e]
    refine sd_cons (ss_if (x := false) (ET.cast (et_c2 cmp_ninT (ee_fldO 0 rfl rfl o.cl (o.na "mode" (by decide))) (ee_var 2 rfl)) (by rw [decide_eq_true h]; rfl)) (fun h => nomatch h) fun _ => sd_nil ?_)
    refine sd_cons (ss_exprF (ef_meth 0 c1 hr (by decide) rfl (ea_cons (ee_var 3 rfl) (ea_cons (ee_var 4 rfl) (ea_cons (ee_var 5 rfl) ea_nil))) ⟨bb, t, a1, a2, a3, c.von, c.voff, c.to, hb, hl, h1, h2, hm, rfl, rfl, rfl, rfl⟩ rfl) ?_)
    refine sd_cons (ss_fldapp 0 (f := "done") (l := a1) rfl rfl (ee_var 1 rfl) (by rw [List.length_map]; show t.done.length ≤ _; omega) (sd_cons (ss_ret ee_bl ⟨rfl, ?_⟩)) o.cl (o.na _ (by decide)))
    unfold turnF
    simp only [List.map_append]
    rfl
  · have e : cmdM bb t x = (false, t) := by
      unfold cmdM
      rw [hc]
      exact if_neg h
    rw [e]
    refine sd_cons (ss_if (x := true) (ET.cast (et_c2 cmp_ninT (ee_fldO 0 rfl rfl o.cl (o.na "mode" (by decide))) (ee_var 2 rfl)) (by rw [decide_eq_false h]; rfl)) (fun _ => sd_cons (ss_ret ee_bl ⟨rfl, rfl⟩)) fun h => nomatch h)
end
end Fw
namespace Fw
open PySem PySem.Spec PyProof.Rows L2
theorem ans1_more (b : Book) (alms : List Str) (t : TSt) (a : Alm) : (ans1 b alms t a).mom.length ≤ t.mom.length + 1 ∧ (ans1 b alms t a).done = t.done ∧ (ans1 b alms t a).refused = t.refused := by
  unfold ans1
  split
  · refine ⟨?_, rfl, rfl⟩
    show (t.mom ++ [_]).length ≤ _
    rw [List.length_append]
    exact Nat.le_refl _
  · exact ⟨Nat.le_succ _, rfl, rfl⟩
theorem ans_take {b : Book} (hb : BOk b) {t : TSt} (alms : List Str) (h : SOk b t.s) : ∀ i, SOk b ((b.alms.take i).foldl (ans1 b alms) t).s ∧ ((b.alms.take i).foldl (ans1 b alms) t).mom.length ≤ t.mom.length + i ∧ ((b.alms.take i).foldl (ans1 b alms) t).done = t.done ∧ ((b.alms.take i).foldl (ans1 b alms) t).refused = t.refused
  | 0 => ⟨h, Nat.le_refl _, rfl, rfl⟩
  | i + 1 => by
    obtain ⟨h1, h2, h3, h4⟩ := ans_take hb alms h i
    cases e : b.alms[i]? with
    | none =>
      have e1 : b.alms.take (i + 1) = b.alms.take i := by rw [List.take_add_one, e]; simp
      rw [e1]
      exact ⟨h1, by omega, h3, h4⟩
    | some a =>
      rw [take_snoc e, List.foldl_append]
      have ha : a ∈ b.alms := List.mem_of_getElem? e
      obtain ⟨g1, g2, g3⟩ := ans1_more b alms ((b.alms.take i).foldl (ans1 b alms) t) a
      exact ⟨ans1_ok hb h1 alms ha, Nat.le_trans g1 (by omega), g2.trans h3, g3.trans h4⟩
theorem ansM_ok {b : Book} (hb : BOk b) {t : TSt} (alms : List Str) (h : SOk b t.s) : SOk b (ansM b t alms).s ∧ (ansM b t alms).mom.length ≤ t.mom.length + 100 ∧ (ansM b t alms).done = t.done ∧ (ansM b t alms).refused = t.refused := by
  obtain ⟨h1, h2, h3⟩ := ans_take hb alms h b.alms.length
  rw [List.take_length] at h1 h2 h3
  have := hb.af
  exact ⟨h1, Nat.le_trans h2 (by omega), h3⟩
theorem im_bl {a b : Bool} (h : a = b) : Slot.im (.bl a) = Slot.im (.bl b) := by rw [h]
def OrdOk (b : Book) : Option Ord → Prop
  | some (.go n) => n ∈ b.cmds.map Cmd.nm
  | some (.run n) => n ∈ b.rows.map Row.nm
  | _ => True
section
variable {P : Program} {w : World} {K : PySem.W.Frag} {mg : Str → Option Value} {base : Heap} {CS CG CT : Addr}
def T_answer (CG : Addr) (fs : List (Str × Fld)) (ds : List D) (d : D) (fs' : List (Str × Fld)) : Prop := ∃ b t a1 a2 a3 alms, BOk b ∧ SOk b t.s ∧ t.mom.length ≤ 500 ∧ fs = turnF CG b t a1 a2 a3 ∧ ds = [eLot alms] ∧ d = .non ∧ fs' = turnF CG b (ansM b t alms) a1 a2 a3
theorem m_answer {f : Addr} {fd : FuncData} (me : Meth K CT "answer" f) (F : C8.Fun K "answer" "Turn.answer" (mth 30 5) f fd) (b : Binds K fd ["self", "alarms"] []) (o : Own K CT turnNs) (og : Own K CG gearNs) (c1 : C8.Met P w K mg base 2 CT "effect" (spM ⟨P, w, K⟩ CT (T_effect CG)) []) (c2 : C8.Met P w K mg base 1 CT "halt" (spM ⟨P, w, K⟩ CT (T_halt CG)) []) : C8.Met P w K mg base 3 CT "answer" (spM ⟨P, w, K⟩ CT (T_answer CG)) [] := by
  have S : FnScope ["self", "alarms", "name", "on", "off", "to"] ["self", "alarms"] (C8.fnScope (mth 30 5)) := C8.fnScope_by (by decide +kernel)
  refine metM (T_answer CG) o.cl me F b S (fun fs ds d fs' ⟨_, _, _, _, _, _, _, _, _, _, h, _⟩ => by rw [h]; rfl) (by decide) fun cdv A outer s H E hr p fs ds d fs' h => ?_
  obtain ⟨bb, t, a1, a2, a3, alms, hb, hs, hm, rfl, rfl, rfl, rfl⟩ := h
  have hT := fun i => ans_take hb alms hs i
  refine sd_cons (ss_for (fun a : Alm => .tup [.str a.nm, .tup [eLot a.von, eLot a.voff, eOpt a.to]]) (fun a => [(2, .str a.nm), (3, eLot a.von), (4, eLot a.voff), (5, eOpt a.to)]) (ei_lst (ee_fld (ee_fldO 0 rfl rfl o.cl (o.na "gears" (by decide))) og.cl (og.na "responses" (by decide)) rfl))
    (fun i ss' => ∃ x2 x3 x4 x5, ss' = [.ob p CT (turnF CG bb ((bb.alms.take i).foldl (ans1 bb alms) t) a1 a2 a3), .im (eLot alms), x2, x3, x4, x5]) ⟨_, _, _, _, rfl⟩ ?_ ?_ ?_)
  · rintro i a ss' ha ⟨x2, x3, x4, x5, rfl⟩
    exact gd_tup (gds_cons (gd_name 2 S.nd) (gds_cons (gd_tup (gds_cons (gd_name 3 S.nd) (gds_cons (gd_name 4 S.nd) (gds_cons (gd_name 5 S.nd) gds_nil)))) gds_nil))
  · rintro i a ss' ha ⟨x2, x3, x4, x5, rfl⟩
    obtain ⟨h1, h2, h3, h4⟩ := hT i
    have ham : a ∈ bb.alms := List.mem_of_getElem? ha
    obtain ⟨_, g1, g2⟩ := hb.al a ham
    have hi : i < bb.alms.length := (List.getElem?_eq_some_iff.mp ha).1
    have := hb.af
    rw [take_snoc ha, List.foldl_append]
    show SD _ _ _ _
    by_cases h : a.nm ∈ alms
    · refine sd_cons (ss_if (x := true) (ET.cast (et_c2 cmp_inT (ee_var 2 rfl) (ee_var 1 rfl)) (decide_eq_true h)) (fun _ => ?_) fun h => nomatch h)
      refine sd_cons (ss_exprF (ef_meth 0 c1 hr (by decide) rfl (ea_cons (ee_var 3 rfl) (ea_cons (ee_var 4 rfl) (ea_cons (ee_var 5 rfl) ea_nil))) ⟨bb, _, a1, a2, a3, a.von, a.voff, a.to, hb, h1.lt, g1, g2, by omega, rfl, rfl, rfl, rfl⟩ rfl) ?_)
      refine sd_cons (ss_exprF (ef_meth0 0 c2 hr (by decide) rfl ⟨bb, _, a1, a2, a3, rfl, rfl, rfl, rfl⟩ rfl) (sd_nil (sd_nil ⟨.im (.str a.nm), .im (eLot a.von), .im (eLot a.voff), .im (eOpt a.to), ?_⟩)))
      have e : [a].foldl (ans1 bb alms) ((bb.alms.take i).foldl (ans1 bb alms) t) = haltM (effM bb ((bb.alms.take i).foldl (ans1 bb alms) t) a.von a.voff a.to) := if_pos h
      rw [e]
      rfl
    · refine sd_cons (ss_if (x := false) (ET.cast (et_c2 cmp_inT (ee_var 2 rfl) (ee_var 1 rfl)) (decide_eq_false h)) (fun h => nomatch h) fun _ => sd_nil (sd_nil ⟨.im (.str a.nm), .im (eLot a.von), .im (eLot a.voff), .im (eOpt a.to), ?_⟩))
      have e : [a].foldl (ans1 bb alms) ((bb.alms.take i).foldl (ans1 bb alms) t) = (bb.alms.take i).foldl (ans1 bb alms) t := if_neg h
      rw [e]
      rfl
  · rintro ss' ⟨x2, x3, x4, x5, rfl⟩
    rw [List.take_length]
    exact sd_nil ⟨rfl, rfl⟩
def T_obey (CG : Addr) (fs : List (Str × Fld)) (ds : List D) (d : D) (fs' : List (Str × Fld)) : Prop := ∃ b t a1 a2 a3, ∃ r : Ord, BOk b ∧ SOk b t.s ∧ t.mom.length ≤ 1000 ∧ t.done.length ≤ 1000 ∧ t.refused.length ≤ 1000 ∧ OrdOk b (some r) ∧ fs = turnF CG b t a1 a2 a3 ∧ ds = [eOrd (some r)] ∧ d = .bl (obeyM b t r).1 ∧ fs' = turnF CG b (obeyM b t r).2 a1 a2 a3
theorem m_obey {f : Addr} {fd : FuncData} (me : Meth K CT "obey" f) (F : C8.Fun K "obey" "Turn.obey" (mth 30 6) f fd) (b : Binds K fd ["self", "order"] []) (o : Own K CT turnNs) (c1 : C8.Met P w K mg base 3 CT "command" (spM ⟨P, w, K⟩ CT (T_cmd CG)) []) (c2 : C8.Met P w K mg base 1 CT "halt" (spM ⟨P, w, K⟩ CT (T_halt CG)) []) (c3 : C8.Met P w K mg base 2 CT "begin" (spM ⟨P, w, K⟩ CT (T_begin CG)) []) : C8.Met P w K mg base 4 CT "obey" (spM ⟨P, w, K⟩ CT (T_obey CG)) [] := by
  have S : FnScope ["self", "order"] ["self", "order"] (C8.fnScope (mth 30 6)) := C8.fnScope_by (by decide +kernel)
  refine metM (T_obey CG) o.cl me F b S (fun fs ds d fs' ⟨_, _, _, _, _, _, _, _, _, _, _, _, _, h, _⟩ => by rw [h]; rfl) (by decide) fun cdv A outer s H E hr p fs ds d fs' h => ?_
  obtain ⟨bb, t, a1, a2, a3, r, hb, hs, hm, hd, hrf, hro, rfl, rfl, rfl, rfl⟩ := h
  refine sd_cons (ss_fld 0 rfl ee_int ?_ o.cl (o.na _ (by decide)))
  cases r with
  | stop =>
    refine sd_cons (ss_if (x := false) (et_w (EW.cast (ew_and (y := false) (et_c2 cmp_eqS (ee_ixT (i := 0) (ee_var 1 rfl) ee_int rfl) ee_str) fun h => absurd h (by decide)) (by decide))) (fun h => nomatch h) fun _ => sd_nil ?_)
    refine sd_cons (ss_if (x := true) (ET.cast (et_c2 cmp_eqS (ee_ixT (i := 0) (ee_var 1 rfl) ee_int rfl) ee_str) (by decide)) (fun _ => sd_cons (ss_exprF (ef_meth0 0 c2 hr (by decide) rfl ⟨bb, { t with s := { t.s with sil := 0 } }, a1, a2, a3, rfl, rfl, rfl, rfl⟩ rfl) (sd_nil ?_))) fun h => nomatch h)
    refine sd_cons (ss_if (x := false) (ET.cast (et_c2 cmp_eqS (ee_ixT (i := 0) (ee_var 1 rfl) ee_int rfl) ee_str) (by decide)) (fun h => nomatch h) fun _ => sd_nil ?_)
    exact sd_cons (ss_ret (ee_c2 cmp_eqS (ee_ixT (i := 0) (ee_var 1 rfl) ee_int rfl) ee_str) ⟨im_bl (b := false) (by decide), rfl⟩)
  | go n =>
    cases e : cmdM bb { t with s := { t.s with sil := 0 } } n with
    | mk c t' =>
    have h0 : SOk bb { t.s with sil := 0 } := ⟨hs.md, hs.lt, hs.rw0, hs.rw1⟩
    have hob : obeyM bb t (.go n) = (false, if c = true then t' else { t' with refused := t'.refused ++ [n] }) := by
      simp only [obeyM, e]
      cases c <;> rfl
    have hrf' : t'.refused = t.refused := by
      have e1 : t' = (cmdM bb { t with s := { t.s with sil := 0 } } n).2 := by rw [e]
      rw [e1]
      unfold cmdM
      split
      · rfl
      · split <;> rfl
    rw [hob]
    refine sd_cons (ss_ifF (b := !c) (ss' := _) (etf_w (EWF.cast (ewf_and (x := true) (ET.cast (et_c2 cmp_eqS (ee_ixT (i := 0) (ee_var 1 rfl) ee_int rfl) ee_str) (by decide)) (fun _ => ewf_and1 (etf_not (etf_val (b := c) (ef_meth 0 (fs' := turnF CG bb t' a1 a2 a3) c1 hr (by decide) rfl (ea_cons (ee_ixT (i := 1) (ee_var 1 rfl) ee_int rfl) ea_nil) ⟨bb, { t with s := { t.s with sil := 0 } }, a1, a2, a3, n, hb, hs.lt, hm, hd, hro, rfl, rfl, by rw [e], by rw [e]⟩ rfl)))) fun h => nomatch h) rfl)) (fun hc => ?_) fun hc => ?_)
    · have hc : c = false := by simpa using hc
      subst hc
      refine sd_cons (ss_fldapp 0 (f := "refused") (l := a2) rfl rfl (ee_ixT (i := 1) (ee_var 1 rfl) ee_int rfl) (by rw [List.length_map, hrf']; omega) (sd_nil ?_) o.cl (o.na _ (by decide)))
      refine sd_cons (ss_if (x := false) (ET.cast (et_c2 cmp_eqS (ee_ixT (i := 0) (ee_var 1 rfl) ee_int rfl) ee_str) (by decide)) (fun h => nomatch h) fun _ => sd_nil ?_)
      refine sd_cons (ss_if (x := false) (ET.cast (et_c2 cmp_eqS (ee_ixT (i := 0) (ee_var 1 rfl) ee_int rfl) ee_str) (by decide)) (fun h => nomatch h) fun _ => sd_nil ?_)
      refine sd_cons (ss_ret (ee_c2 cmp_eqS (ee_ixT (i := 0) (ee_var 1 rfl) ee_int rfl) ee_str) ⟨im_bl (b := false) (by decide), ?_⟩)
      rw [if_neg (by decide)]
      unfold turnF
      simp only [List.map_append]
      rfl
    · have hc : c = true := by simpa using hc
      subst hc
      refine sd_nil ?_
      refine sd_cons (ss_if (x := false) (ET.cast (et_c2 cmp_eqS (ee_ixT (i := 0) (ee_var 1 rfl) ee_int rfl) ee_str) (by decide)) (fun h => nomatch h) fun _ => sd_nil ?_)
      refine sd_cons (ss_if (x := false) (ET.cast (et_c2 cmp_eqS (ee_ixT (i := 0) (ee_var 1 rfl) ee_int rfl) ee_str) (by decide)) (fun h => nomatch h) fun _ => sd_nil ?_)
      refine sd_cons (ss_ret (ee_c2 cmp_eqS (ee_ixT (i := 0) (ee_var 1 rfl) ee_int rfl) ee_str) ⟨im_bl (b := false) (by decide), ?_⟩)
      rfl
  | run n =>
    obtain ⟨ww, hw⟩ := row?_of (show n ∈ bb.rows.map Row.nm from hro)
    refine sd_cons (ss_if (x := false) (et_w (EW.cast (ew_and (y := false) (et_c2 cmp_eqS (ee_ixT (i := 0) (ee_var 1 rfl) ee_int rfl) ee_str) fun h => absurd h (by decide)) (by decide))) (fun h => nomatch h) fun _ => sd_nil ?_)
    refine sd_cons (ss_if (x := false) (ET.cast (et_c2 cmp_eqS (ee_ixT (i := 0) (ee_var 1 rfl) ee_int rfl) ee_str) (by decide)) (fun h => nomatch h) fun _ => sd_nil ?_)
    refine sd_cons (ss_if (x := true) (ET.cast (et_c2 cmp_eqS (ee_ixT (i := 0) (ee_var 1 rfl) ee_int rfl) ee_str) (by decide)) (fun _ => sd_cons (ss_exprF (ef_meth 0 c3 hr (by decide) rfl (ea_cons (ee_ixT (i := 1) (ee_var 1 rfl) ee_int rfl) (ea_cons ee_int ea_nil)) ⟨bb, { t with s := { t.s with sil := 0 } }, a1, a2, a3, n, 0, ww, hw, Nat.zero_le _, rfl, rfl, rfl, rfl⟩ rfl) (sd_nil ?_))) fun h => nomatch h)
    exact sd_cons (ss_ret (ee_c2 cmp_eqS (ee_ixT (i := 0) (ee_var 1 rfl) ee_int rfl) ee_str) ⟨im_bl (b := true) (by decide), rfl⟩)
def T_wait (CG : Addr) (fs : List (Str × Fld)) (ds : List D) (d : D) (fs' : List (Str × Fld)) : Prop := ∃ b t a1 a2 a3, BOk b ∧ SOk b t.s ∧ t.mom.length ≤ 1000 ∧ fs = turnF CG b t a1 a2 a3 ∧ ds = [] ∧ d = .non ∧ fs' = turnF CG b (waitM b t) a1 a2 a3
theorem turned_nil (holds : List Str) : Turned [] [] holds := ⟨⟨⟨fun _ h => (by cases h), .nil, by decide⟩, fun _ h => (by cases h)⟩, ⟨⟨fun _ h => (by cases h), .nil, by decide⟩, fun _ h => (by cases h)⟩, fun _ h => (by cases h)⟩
theorem m_wait {f : Addr} {fd : FuncData} (me : Meth K CT "wait" f) (F : C8.Fun K "wait" "Turn.wait" (mth 30 7) f fd) (b : Binds K fd ["self"] []) (o : Own K CT turnNs) (og : Own K CG gearNs) (c1 : C8.Met P w K mg base 2 CT "effect" (spM ⟨P, w, K⟩ CT (T_effect CG)) []) (c2 : C8.Met P w K mg base 1 CT "halt" (spM ⟨P, w, K⟩ CT (T_halt CG)) []) : C8.Met P w K mg base 3 CT "wait" (spM ⟨P, w, K⟩ CT (T_wait CG)) [] := by
  have S : FnScope ["self"] ["self"] (C8.fnScope (mth 30 7)) := C8.fnScope_by (by decide +kernel)
  refine metM (T_wait CG) o.cl me F b S (fun fs ds d fs' ⟨_, _, _, _, _, _, _, _, _, h, _⟩ => by rw [h]; rfl) (by decide) fun cdv A outer s H E hr p fs ds d fs' h => ?_
  obtain ⟨bb, t, a1, a2, a3, hb, hs, hm, rfl, rfl, rfl, rfl⟩ := h
  cases hq : bb.quiet with
  | none =>
    have e : waitM bb t = t := by unfold waitM; rw [hq]
    rw [e]
    exact sd_cons (ss_if (x := false) (ET.cast (et_c2 (cmp_notN (d := eOptI bb.quiet)) (ee_fld (ee_fldO 0 rfl rfl o.cl (o.na "gears" (by decide))) og.cl (og.na "patience" (by decide)) rfl) ee_non) (by rw [hq]; rfl)) (fun h => nomatch h) fun _ => sd_nil (sd_nil ⟨rfl, rfl⟩))
  | some q =>
    refine sd_cons (ss_if (x := true) (ET.cast (et_c2 (cmp_notN (d := eOptI bb.quiet)) (ee_fld (ee_fldO 0 rfl rfl o.cl (o.na "gears" (by decide))) og.cl (og.na "patience" (by decide)) rfl) ee_non) (by rw [hq]; rfl)) (fun _ => ?_) fun h => nomatch h)
    refine sd_cons (ss_fldaug 0 (fn := fun a b => a + b) (m := t.s.sil) (n := 1) (f := "silence") in_add (fun m n H Q q => ⟨_, _, rfl, rfl, q⟩) rfl rfl ee_int ?_ o.cl (o.na _ (by decide)))
    by_cases h : t.s.sil + 1 = q
    · refine sd_cons (ss_if (x := true) (ET.cast (et_c2 (cmp_eqI (m := t.s.sil + 1) (n := q)) (ee_fldO 0 rfl rfl o.cl (o.na "silence" (by decide))) (ee_fld (ee_fldO 0 rfl rfl o.cl (o.na "gears" (by decide))) og.cl (og.na "patience" (by decide)) (by rw [hq]; rfl))) (decide_eq_true h)) (fun _ => ?_) fun h => nomatch h)
      have h0 : LotOf t.s.lot bb.holds := hs.lt
      refine sd_cons (ss_exprF (ef_meth 0 c1 hr (by decide) rfl (ea_cons (ee_tup ea_nil) (ea_cons (ee_tup ea_nil) (ea_cons (ee_fld (ee_fldO 0 rfl rfl o.cl (o.na "gears" (by decide))) og.cl (og.na "home" (by decide)) rfl) ea_nil))) ⟨bb, { t with s := { t.s with sil := t.s.sil + 1 } }, a1, a2, a3, [], [], some (homeM bb), hb, h0, turned_nil _, (fun x hx => by cases hx; exact home_mem hb), hm, rfl, rfl, rfl, rfl⟩ rfl) ?_)
      refine sd_cons (ss_exprF (ef_meth0 0 c2 hr (by decide) rfl ⟨bb, _, a1, a2, a3, rfl, rfl, rfl, rfl⟩ rfl) ?_)
      refine sd_cons (ss_fld 0 rfl ee_int (sd_nil (sd_nil (sd_nil ⟨rfl, ?_⟩))) o.cl (o.na _ (by decide)))
      have e : waitM bb t = { haltM (effM bb { t with s := { t.s with sil := t.s.sil + 1 } } [] [] (some (homeM bb))) with s := { (haltM (effM bb { t with s := { t.s with sil := t.s.sil + 1 } } [] [] (some (homeM bb)))).s with sil := 0 } } := by
        unfold waitM
        rw [hq]
        exact if_pos h
      rw [e]
      rfl
    · refine sd_cons (ss_if (x := false) (ET.cast (et_c2 (cmp_eqI (m := t.s.sil + 1) (n := q)) (ee_fldO 0 rfl rfl o.cl (o.na "silence" (by decide))) (ee_fld (ee_fldO 0 rfl rfl o.cl (o.na "gears" (by decide))) og.cl (og.na "patience" (by decide)) (by rw [hq]; rfl))) (decide_eq_false h)) (fun h => nomatch h) fun _ => sd_nil (sd_nil (sd_nil ⟨rfl, ?_⟩)))
      have e : waitM bb t = { t with s := { t.s with sil := t.s.sil + 1 } } := by
        unfold waitM
        rw [hq]
        exact if_neg h
      rw [e]
      rfl
end
end Fw
namespace Fw
open PySem PySem.Spec PyProof.Rows L2
theorem cmdM_more (b : Book) (t : TSt) (x : Str) : (cmdM b t x).2.mom.length ≤ t.mom.length + 1 ∧ (cmdM b t x).2.done.length ≤ t.done.length + 1 ∧ (cmdM b t x).2.refused = t.refused ∧ (cmdM b t x).2.s.row = t.s.row ∧ (cmdM b t x).2.s.place = t.s.place := by
  unfold cmdM
  split
  · exact ⟨Nat.le_succ _, Nat.le_succ _, rfl, rfl, rfl⟩
  · split
    · refine ⟨?_, ?_, rfl, rfl, rfl⟩
      · show (t.mom ++ [_]).length ≤ _
        rw [List.length_append]
        exact Nat.le_refl _
      · show (t.done ++ [_]).length ≤ _
        rw [List.length_append]
        exact Nat.le_refl _
    · exact ⟨Nat.le_succ _, Nat.le_succ _, rfl, rfl, rfl⟩
section
variable {P : Program} {w : World} {K : PySem.W.Frag} {mg : Str → Option Value} {base : Heap} {CS CG CT : Addr}
def T_go (CG : Addr) (fs : List (Str × Fld)) (ds : List D) (d : D) (fs' : List (Str × Fld)) : Prop := ∃ b t a1 a2 a3, BOk b ∧ SOk b t.s ∧ t.mom.length ≤ 1000 ∧ t.done.length ≤ 1000 ∧ fs = turnF CG b t a1 a2 a3 ∧ ds = [] ∧ d = .non ∧ fs' = turnF CG b (goM b t) a1 a2 a3
theorem m_go {f : Addr} {fd : FuncData} (me : Meth K CT "go_on" f) (F : C8.Fun K "go_on" "Turn.go_on" (mth 30 8) f fd) (b : Binds K fd ["self"] []) (o : Own K CT turnNs) (og : Own K CG gearNs) (c1 : C8.Met P w K mg base 3 CT "command" (spM ⟨P, w, K⟩ CT (T_cmd CG)) []) (c3 : C8.Met P w K mg base 2 CT "begin" (spM ⟨P, w, K⟩ CT (T_begin CG)) []) : C8.Met P w K mg base 4 CT "go_on" (spM ⟨P, w, K⟩ CT (T_go CG)) [] := by
  have S : FnScope ["self", "row", "place"] ["self"] (C8.fnScope (mth 30 8)) := C8.fnScope_by (by decide +kernel)
  refine metM (T_go CG) o.cl me F b S (fun fs ds d fs' ⟨_, _, _, _, _, _, _, _, _, _, h, _⟩ => by rw [h]; rfl) (by decide) fun cdv A outer s H E hr p fs ds d fs' h => ?_
  obtain ⟨bb, t, a1, a2, a3, hb, hs, hm, hd, rfl, rfl, rfl, rfl⟩ := h
  cases hq : t.s.row with
  | none =>
    have e : goM bb t = t := by unfold goM; rw [hq]
    rw [e]
    exact sd_cons (ss_if (x := false) (ET.cast (et_c2 (cmp_notN (d := eOpt t.s.row)) (ee_fldO 0 rfl rfl o.cl (o.na "row" (by decide))) ee_non) (by rw [hq]; rfl)) (fun h => nomatch h) fun _ => sd_nil (sd_nil ⟨rfl, rfl⟩))
  | some r =>
    obtain ⟨ww, hw, hp⟩ := hs.rw1 r hq
    refine sd_cons (ss_if (x := true) (ET.cast (et_c2 (cmp_notN (d := eOpt t.s.row)) (ee_fldO 0 rfl rfl o.cl (o.na "row" (by decide))) ee_non) (by rw [hq]; rfl)) (fun _ => ?_) fun h => nomatch h)
    refine sd_cons (ss_fldaug 0 (fn := fun a b => a - b) (m := t.s.left) (n := 1) (f := "left") in_sub (fun m n H Q q => ⟨_, _, rfl, rfl, q⟩) rfl rfl ee_int ?_ o.cl (o.na _ (by decide)))
    have e1 : ww.steps[t.s.place]? = some ww.steps[t.s.place] := List.getElem?_eq_getElem hp
    by_cases h : t.s.left - 1 = 0
    · refine sd_cons (ss_if (x := true) (ET.cast (et_c2 (cmp_eqI (m := t.s.left - 1) (n := 0)) (ee_fldO 0 rfl rfl o.cl (o.na "left" (by decide))) ee_int) (decide_eq_true h)) (fun _ => ?_) fun h => nomatch h)
      refine sd_cons (ss_par 1 2 (d1 := .str r) (d2 := .int t.s.place) (ea_cons (EE.cast (ee_fldO 0 rfl rfl o.cl (o.na "row" (by decide))) (by rw [hq]; rfl)) (ea_cons (ee_fldO 0 rfl rfl o.cl (o.na "place" (by decide))) ea_nil)) ?_ S.nd)
      have e2 : atI (ww.steps.map eStep) (t.s.place : Int) = some (eStep ww.steps[t.s.place]) := atI_nat (by rw [List.getElem?_map, e1]; rfl)
      obtain ⟨_, _, _, hst⟩ := hb.rs ww (row?_some hw).1
      have hx := (hst _ (List.getElem_mem hp)).2.2
      obtain ⟨g1, g2, g3, g4, g5⟩ := cmdM_more bb { t with s := { t.s with left := t.s.left - 1 } } ww.steps[t.s.place].2
      refine sd_cons (ss_exprF (ef_meth 0 c1 hr (by decide) rfl (ea_cons (ee_ixT (i := 1) (ee_ixT (i := (t.s.place : Int)) (ee_dget (k := .inr r) (Rm.u1 hr) (ee_fld (ee_fldO 0 rfl rfl o.cl (o.na "gears" (by decide))) og.cl (og.na "series" (by decide)) rfl) (ee_var 1 rfl) (series_of hw)) (ee_var 2 rfl) e2) ee_int rfl) ea_nil) ⟨bb, { t with s := { t.s with left := t.s.left - 1 } }, a1, a2, a3, ww.steps[t.s.place].2, hb, hs.lt, hm, hd, hx, rfl, rfl, rfl, rfl⟩ rfl) ?_)
      refine sd_cons (ss_exprF (ef_meth 0 c3 hr (by decide) rfl (ea_cons (ee_var 1 rfl) (ea_cons (EE.cast (ee_add (ee_var 2 rfl) ee_int) rfl) ea_nil)) ⟨bb, _, a1, a2, a3, r, t.s.place + 1, ww, hw, hp, rfl, rfl, rfl, rfl⟩ rfl) (sd_nil (sd_nil (sd_nil ⟨rfl, ?_⟩))))
      have e : goM bb t = beginM bb (cmdM bb { t with s := { t.s with left := t.s.left - 1 } } ww.steps[t.s.place].2).2 r (t.s.place + 1) := by
        unfold goM
        simp only [hq, hw, Option.bind_some, e1, if_pos h]
      rw [e]
      rfl
    · refine sd_cons (ss_if (x := false) (ET.cast (et_c2 (cmp_eqI (m := t.s.left - 1) (n := 0)) (ee_fldO 0 rfl rfl o.cl (o.na "left" (by decide))) ee_int) (decide_eq_false h)) (fun h => nomatch h) fun _ => sd_nil (sd_nil (sd_nil ⟨rfl, ?_⟩)))
      have e : goM bb t = { t with s := { t.s with left := t.s.left - 1 } } := by
        unfold goM
        simp only [hq, if_neg h]
      rw [e]
      rfl
def T_step (CS CG CT : Addr) (ds : List D) (d : D) : Prop := ∃ b t a1 a2 a3, ds = [frzD CT (turnF CG b t a1 a2 a3)] ∧ d = dStep CS t
theorem m_step {f : Addr} {fd : FuncData} (me : Meth K CT "step" f) (F : C8.Fun K "step" "Turn.step" (mth 30 9) f fd) (b : Binds K fd ["self"] []) (o : Own K CT turnNs) (c1 : C8.Mak P w K mg base 1 "Step" CS (spI ⟨P, w, K⟩ CS T_Step) []) : C8.Met P w K mg base 3 CT "step" (spP ⟨P, w, K⟩ (T_step CS CG CT)) [] := by
  have S : FnScope ["self", "standing"] ["self"] (C8.fnScope (mth 30 9)) := C8.fnScope_by (by decide +kernel)
  refine metP o.cl me b (fnP (T_step CS CG CT) F S (fun ds d ⟨_, _, _, _, _, h, _⟩ => by rw [h]; rfl) (by decide) fun cdv A outer s H E hr ds d h => ?_)
  obtain ⟨bb, t, a1, a2, a3, rfl, rfl⟩ := h
  refine sd_cons (ss_asg 1 (ee_tup (ea_cons (ee_fld (ee_var 0 rfl) o.cl (o.na "mode" (by decide)) rfl) (ea_cons (ee_fld (ee_var 0 rfl) o.cl (o.na "lot" (by decide)) rfl) (ea_cons (ee_fld (ee_var 0 rfl) o.cl (o.na "row" (by decide)) rfl) (ea_cons (ee_fld (ee_var 0 rfl) o.cl (o.na "place" (by decide)) rfl) (ea_cons (ee_fld (ee_var 0 rfl) o.cl (o.na "left" (by decide)) rfl) (ea_cons (ee_fld (ee_var 0 rfl) o.cl (o.na "silence" (by decide)) rfl) ea_nil))))))) ?_ S.nd)
  refine sd_cons (ss_ret (ee_make c1 hr (by decide) (ea_cons (ee_var 1 rfl) (ea_cons (ee_fld (ee_var 0 rfl) o.cl (o.na "done" (by decide)) rfl) (ea_cons (ee_fld (ee_var 0 rfl) o.cl (o.na "refused" (by decide)) rfl) (ea_cons (ee_fld (ee_var 0 rfl) o.cl (o.na "moments" (by decide)) rfl) ea_nil)))) ⟨t, rfl, rfl⟩ ?_) rfl)
  rintro fs ⟨b1, b2, b3, rfl⟩
  rfl
end
end Fw
namespace Fw
open PySem PySem.Spec PyProof.Rows L2
theorem waitM_ok {b : Book} (hb : BOk b) {t : TSt} (h : SOk b t.s) : SOk b (waitM b t).s ∧ (waitM b t).mom.length ≤ t.mom.length + 1 ∧ (waitM b t).done = t.done := by
  unfold waitM
  split
  · exact ⟨h, Nat.le_succ _, rfl⟩
  · have h0 : SOk b { t.s with sil := t.s.sil + 1 } := ⟨h.md, h.lt, h.rw0, h.rw1⟩
    split
    · have h1 := haltM_ok (effM_ok hb (t := { t with s := { t.s with sil := t.s.sil + 1 } }) (to := some (homeM b)) h0 (turned_nil _) fun x hx => by cases hx; exact home_mem hb)
      refine ⟨⟨h1.md, h1.lt, h1.rw0, h1.rw1⟩, ?_, rfl⟩
      show (t.mom ++ [_]).length ≤ _
      rw [List.length_append]
      exact Nat.le_refl _
    · exact ⟨h0, Nat.le_succ _, rfl⟩
theorem obeyM_ok {b : Book} (hb : BOk b) {t : TSt} (h : SOk b t.s) (o : Ord) : SOk b (obeyM b t o).2.s ∧ (obeyM b t o).2.mom.length ≤ t.mom.length + 1 ∧ (obeyM b t o).2.done.length ≤ t.done.length + 1 := by
  have h0 : SOk b { t.s with sil := 0 } := ⟨h.md, h.lt, h.rw0, h.rw1⟩
  cases o with
  | stop => exact ⟨haltM_ok (t := { t with s := { t.s with sil := 0 } }) h0, Nat.le_succ _, Nat.le_succ _⟩
  | go n =>
    obtain ⟨g1, g2, _⟩ := cmdM_more b { t with s := { t.s with sil := 0 } } n
    have g0 := cmdM_ok hb (t := { t with s := { t.s with sil := 0 } }) h0 n
    cases e : cmdM b { t with s := { t.s with sil := 0 } } n with
    | mk c t' =>
      rw [e] at g0 g1 g2
      simp only [obeyM, e]
      cases c <;> exact ⟨g0, g1, g2⟩
  | run n =>
    refine ⟨beginM_ok (t := { t with s := { t.s with sil := 0 } }) h0 n 0, ?_⟩
    show (beginM b _ n 0).mom.length ≤ _ ∧ (beginM b _ n 0).done.length ≤ _
    unfold beginM
    split
    · exact ⟨Nat.le_succ _, Nat.le_succ _⟩
    · exact ⟨Nat.le_succ _, Nat.le_succ _⟩
theorem goM_ok {b : Book} (hb : BOk b) {t : TSt} (h : SOk b t.s) : SOk b (goM b t).s := by
  unfold goM
  split
  · exact h
  · rename_i r e
    have h0 : SOk b { t.s with left := t.s.left - 1 } := ⟨h.md, h.lt, (fun z => by rw [show t.s.row = none from z] at e; cases e), h.rw1⟩
    split
    · split
      · exact h
      · exact beginM_ok (cmdM_ok hb (t := { t with s := { t.s with left := t.s.left - 1 } }) h0 _) _ _
    · exact h0
theorem tickT_ok {b : Book} (hb : BOk b) {s : Stg} (h : SOk b s) (i : Inp) : SOk b (tickT b s i).s := by
  obtain ⟨h1, _⟩ := ansM_ok hb (t := ⟨s, [], [], []⟩) i.alms h
  unfold tickT
  simp only
  split
  · exact goM_ok hb (waitM_ok hb h1).1
  · rename_i o e
    have h2 := (obeyM_ok hb h1 o).1
    cases e : obeyM b (ansM b ⟨s, [], [], []⟩ i.alms) o with
    | mk c t' =>
      rw [e] at h2
      cases c
      · exact goM_ok hb h2
      · exact h2
theorem tickM_ok {b : Book} (hb : BOk b) {s : Stg} (h : SOk b s) (i : Inp) : SOk b (tickM b s i) := tickT_ok hb h i
section
variable {P : Program} {w : World} {K : PySem.W.Frag} {mg : Str → Option Value} {base : Heap} {CS CG CT : Addr}
def T_tick (CS CG : Addr) (ds : List D) (d : D) : Prop := ∃ b s, ∃ i : Inp, BOk b ∧ SOk b s ∧ OrdOk b i.ord ∧ ds = [dGears CG b, eStg s, eLot i.alms, eOrd i.ord] ∧ d = dStep CS (tickT b s i)
theorem c_tick {f : Addr} {fd : FuncData} (F : C8.Def K mg "tick_by" (top 31) f fd) (b : Binds K fd ["gears", "standing", "alarms", "order"] []) (c0 : C8.Mak P w K mg base 1 "Turn" CT (spI ⟨P, w, K⟩ CT T_Turn) []) (c1 : C8.Met P w K mg base 3 CT "answer" (spM ⟨P, w, K⟩ CT (T_answer CG)) [])
    (c2 : C8.Met P w K mg base 3 CT "wait" (spM ⟨P, w, K⟩ CT (T_wait CG)) []) (c3 : C8.Met P w K mg base 4 CT "obey" (spM ⟨P, w, K⟩ CT (T_obey CG)) []) (c4 : C8.Met P w K mg base 4 CT "go_on" (spM ⟨P, w, K⟩ CT (T_go CG)) []) (c5 : C8.Met P w K mg base 3 CT "step" (spP ⟨P, w, K⟩ (T_step CS CG CT)) []) :
    C8.Cal P w K mg base 5 "tick_by" (spP ⟨P, w, K⟩ (T_tick CS CG)) [] := by
  have S : FnScope ["gears", "standing", "alarms", "order", "turn", "is_begun"] ["gears", "standing", "alarms", "order"] (C8.fnScope (top 31)) := C8.fnScope_by (by decide +kernel)
  refine calP (T_tick CS CG) F b S (fun ds d ⟨_, _, _, _, _, _, h, _⟩ => by rw [h]; rfl) (by decide) fun cdv A outer s H E hr ds d h => ?_
  obtain ⟨bb, st, i, hb, hs, ho, rfl, rfl⟩ := h
  refine sd_cons (ss_asgM 4 c0 hr (by decide) (ea_cons (ee_var 0 rfl) (ea_cons (ee_var 1 rfl) ea_nil)) ⟨dGears CG bb, .str st.mode, eLot st.lot, eOpt st.row, .int st.place, .int st.left, .int st.sil, rfl, rfl⟩ (fun q fs hq => ?_) S.nd)
  obtain ⟨a1, a2, a3, rfl⟩ := hq
  obtain ⟨h1, h2, h3, h4⟩ := ansM_ok hb (t := ⟨st, [], [], []⟩) i.alms hs
  have h2 : (ansM bb ⟨st, [], [], []⟩ i.alms).mom.length ≤ 100 := by simpa using h2
  have h3 : (ansM bb ⟨st, [], [], []⟩ i.alms).done.length = 0 := by rw [h3]; rfl
  have h4 : (ansM bb ⟨st, [], [], []⟩ i.alms).refused.length = 0 := by rw [h4]; rfl
  refine sd_cons (ss_exprF (ef_meth 4 c1 hr (by decide) rfl (ea_cons (ee_var 2 rfl) ea_nil) ⟨bb, ⟨st, [], [], []⟩, a1, a2, a3, i.alms, hb, hs, Nat.zero_le _, rfl, rfl, rfl, rfl⟩ rfl) ?_)
  refine sd_cons (ss_asg 5 ee_bl ?_ S.nd)
  cases hi : i.ord with
  | none =>
    obtain ⟨g1, g2, g3⟩ := waitM_ok hb h1
    refine sd_cons (ss_if (x := true) (et_c2 (cmp_isN (d := eOrd none)) (ee_var 3 rfl) ee_non) (fun _ => ?_) fun h => nomatch h)
    refine sd_cons (ss_exprF (ef_meth0 4 c2 hr (by decide) rfl ⟨bb, _, a1, a2, a3, hb, h1, by omega, rfl, rfl, rfl, rfl⟩ rfl) (sd_nil ?_))
    refine sd_cons (ss_if (x := true) (et_not (x := false) (et_val (ee_var 5 rfl))) (fun _ => ?_) fun h => nomatch h)
    refine sd_cons (ss_exprF (ef_meth0 4 c4 hr (by decide) rfl ⟨bb, _, a1, a2, a3, hb, g1, by omega, by rw [g3]; omega, rfl, rfl, rfl, rfl⟩ rfl) (sd_nil ?_))
    refine sd_frz 4 rfl (sd_cons (ss_ret (ee_meth0 c5 hr (by decide) (ee_var 4 rfl) ⟨bb, _, a1, a2, a3, rfl, rfl⟩ (by show ("step" : Str) ∉ turnNs; decide)) ?_))
    unfold tickT
    rw [hi]
  | some o =>
    obtain ⟨g1, g2, g3⟩ := obeyM_ok hb h1 o
    cases e : obeyM bb (ansM bb ⟨st, [], [], []⟩ i.alms) o with
    | mk c t' =>
    rw [e] at g1 g2 g3
    have g2 : t'.mom.length ≤ _ := g2
    have g3 : t'.done.length ≤ _ := g3
    refine sd_cons (ss_if (x := false) (ET.cast (et_c2 (cmp_isN (d := eOrd (some o))) (ee_var 3 rfl) ee_non) (by cases o <;> rfl)) (fun h => nomatch h) fun _ => ?_)
    refine sd_cons (ss_asgF 5 (d := .bl c) (ef_meth 4 (fs' := turnF CG bb t' a1 a2 a3) c3 hr (by decide) rfl (ea_cons (ee_var 3 rfl) ea_nil) ⟨bb, ansM bb ⟨st, [], [], []⟩ i.alms, a1, a2, a3, o, hb, h1, by omega, by omega, by omega, (by rw [hi] at ho; exact ho), rfl, rfl, (by rw [e]), (by rw [e])⟩ rfl) (sd_nil ?_) S.nd)
    cases c with
    | true =>
      refine sd_cons (ss_if (x := false) (et_not (x := true) (et_val (ee_var 5 rfl))) (fun h => nomatch h) fun _ => sd_nil ?_)
      refine sd_frz 4 rfl (sd_cons (ss_ret (ee_meth0 c5 hr (by decide) (ee_var 4 rfl) ⟨bb, _, a1, a2, a3, rfl, rfl⟩ (by show ("step" : Str) ∉ turnNs; decide)) ?_))
      simp only [tickT, hi, e]
    | false =>
      refine sd_cons (ss_if (x := true) (et_not (x := false) (et_val (ee_var 5 rfl))) (fun _ => ?_) fun h => nomatch h)
      refine sd_cons (ss_exprF (ef_meth0 4 c4 hr (by decide) rfl ⟨bb, t', a1, a2, a3, hb, g1, by omega, by omega, rfl, rfl, rfl, rfl⟩ rfl) (sd_nil ?_))
      refine sd_frz 4 rfl (sd_cons (ss_ret (ee_meth0 c5 hr (by decide) (ee_var 4 rfl) ⟨bb, _, a1, a2, a3, rfl, rfl⟩ (by show ("step" : Str) ∉ turnNs; decide)) ?_))
      simp only [tickT, hi, e]
end
end Fw
namespace Fw
open PySem PySem.Spec PyProof.Rows L2
def cmdsM (l : List Cmd) : List Cmd := (sortS (l.map Cmd.nm)).filterMap fun x => l.find? fun m => decide (m.nm = x)
def normB (b : Book) : Book := { b with holds := sortS b.holds, barred := sortL b.barred, cmds := cmdsM b.cmds }
structure BRaw (b : Book) : Prop extends BOk b where
  h1 : 1 ≤ b.holds.length
  h6 : b.holds.length ≤ 6
  hd : b.holds.Nodup
  m5 : b.modes.length ≤ 5
  c8 : b.cmds.length ≤ 8
  a4 : b.alms.length ≤ 4
  r3 : b.rows.length ≤ 3
  bnd : b.barred.Nodup
  b8 : b.barred.length ≤ 8
  b1 : ∀ l ∈ b.barred, 1 < l.length
  cm : ∀ c ∈ b.cmds, LotOf c.ms (b.modes.map Mode.nm)
  s4 : ∀ r ∈ b.rows, r.steps.length ≤ 4
def bookNs : List Str := ["_holds", "_barred", "_parts", "_quiet"]
def partsD (b : Book) : D := .dk [.inr "mode", .inr "command", .inr "alarm", .inr "row"] [.lst (b.modes.map eMode), .lst (b.cmds.map eCmd), .lst (b.alms.map eAlm), .lst (b.rows.map eRow)]
def dBook (CB : Addr) (b : Book) : D := .ins CB bookNs [eStrs b.holds, .lst (b.barred.map eLot), partsD b, eOptI b.quiet]
def bookF (b : Book) : List (Str × Fld) := [("_holds", .im (eStrs b.holds)), ("_barred", .im (.lst (b.barred.map eLot))), ("_parts", .im (partsD b)), ("_quiet", .im (eOptI b.quiet))]
theorem nodup_inr {l : List Str} (h : l.Nodup) : (l.map (Sum.inr : Str → Key)).Nodup := List.pairwise_map.mpr (h.imp fun n z => n (Sum.inr.inj z))
theorem EI.cast {X : Cx} {ss : List Slot} {tg it : Expr} {ds ds' : List D} (h : EI X ss tg it ds) (q : ds = ds') : EI X ss tg it ds' := q ▸ h
theorem flat_true {α β : Type} (l : List α) (f : α → List β) : (l.flatMap fun d => (f d).map fun _ => D.bl true) = ((l.flatMap f).map fun _ => true).map D.bl := by
  induction l with
  | nil => rfl
  | cons x r ih =>
    rw [List.flatMap_cons, List.flatMap_cons, List.map_append, List.map_append, ih]
    congr 1
    exact map_true _
section
variable {P : Program} {w : World} {K : PySem.W.Frag} {mg : Str → Option Value} {base : Heap} {CB : Addr}
def T_Book (ds : List D) (R : List (Str × Fld) → Prop) : Prop := ∃ b, BRaw b ∧ ds = [eStrs b.holds, .lst (b.modes.map eMode), .lst (b.barred.map eLot), .lst (b.cmds.map eCmd), .lst (b.alms.map eAlm), .lst (b.rows.map eRow), eOptI b.quiet] ∧ R = fun fs => fs = bookF (normB b)
/-- the globals of the text module that are texts -/
structure Gs (mg : Str → Option Value) : Prop where
  letters : ∃ t, mg "LETTERS" = some (.str lettersS t)
  mode : ∃ t, mg "MODE" = some (.str "mode" t)
  command : ∃ t, mg "COMMAND" = some (.str "command" t)
  alarm : ∃ t, mg "ALARM" = some (.str "alarm" t)
  row : ∃ t, mg "ROW" = some (.str "row" t)
def bookN : List Str := ["self", "holds", "modes", "barred", "commands", "alarms", "rows", "quiet", "parts", "known", "named", "ordered", "part", "some", "many", "_", "on", "off", "lot", "to", "steps", "step", "command", "name"]
set_option maxHeartbeats 16000000 in
theorem k_Book {f : Addr} {fd : FuncData} (M : Mk K CB f) (hm : mg "Book" = some (.ref CB)) (F : C8.Fun K "__init__" "Book.__init__" (mth 22 0) f fd) (b : Binds K fd ["self", "holds", "modes", "barred", "commands", "alarms", "rows", "quiet"] []) (B : Bt mg) (Gg : Gs mg) (o : Own K CB bookNs)
    (cR : C8.Cal P w K mg base 1 "require" (spP ⟨P, w, K⟩ T_require) []) (cN : C8.Cal P w K mg base 2 "require_names" (spP ⟨P, w, K⟩ T_require_names) []) (cO : C8.Cal P w K mg base 1 "names_of" (spP ⟨P, w, K⟩ T_names_of) [])
    (cT : C8.Cal P w K mg base 4 "are_turned" (spP ⟨P, w, K⟩ T_are_turned) []) (cL : C8.Cal P w K mg base 3 "is_lot_of" (spP ⟨P, w, K⟩ T_is_lot_of) []) (cE : C8.Cal P w K mg base 5 "is_effect" (spP ⟨P, w, K⟩ T_is_effect) []) (cS : C8.Cal P w K mg base 1 "is_step" (spP ⟨P, w, K⟩ T_is_step) []) : C8.Mak P w K mg base 6 "Book" CB (spI ⟨P, w, K⟩ CB T_Book) [] := by
  have S : FnScope bookN ["self", "holds", "modes", "barred", "commands", "alarms", "rows", "quiet"] (C8.fnScope (mth 22 0)) := C8.fnScope_by (by decide +kernel)
  refine makI T_Book M hm F b S (fun ds fs ⟨_, _, h, _⟩ => by rw [h]; rfl) (by decide) fun cdv A outer s H E hr p ds R h => ?_
  obtain ⟨bk, hb, rfl, rfl⟩ := h
  have e1 := hb.m5
  have e2 := hb.c8
  have e3 := hb.a4
  have e4 := hb.r3
  -- parts
  refine sd_cons (ss_asg 8 (EE.cast (EO.ee (eo_lst (ea_cons (ee_tup (ea_cons (ee_v 2 (.lst (bk.modes.map eMode))) (ea_cons ee_int ea_nil))) (ea_cons (ee_tup (ea_cons (ee_v 4 (.lst (bk.cmds.map eCmd))) (ea_cons ee_int ea_nil))) (ea_cons (ee_tup (ea_cons (ee_v 5 (.lst (bk.alms.map eAlm))) (ea_cons ee_int ea_nil))) (ea_cons (ee_tup (ea_cons (ee_v 6 (.lst (bk.rows.map eRow))) (ea_cons ee_int ea_nil))) ea_nil))))))
    (show D.lst [.tup [.lst (bk.modes.map eMode), .int 3], .tup [.lst (bk.cmds.map eCmd), .int 5], .tup [.lst (bk.alms.map eAlm), .int 4], .tup [.lst (bk.rows.map eRow), .int 2]] = .lst ([(bk.modes.map eMode, (3 : Int)), (bk.cmds.map eCmd, 5), (bk.alms.map eAlm, 4), (bk.rows.map eRow, 2)].map fun p => D.tup [.lst p.1, .int p.2]) from rfl)) ?_ S.nd)
  have hp : ∀ p ∈ [(bk.modes.map eMode, (3 : Int)), (bk.cmds.map eCmd, 5), (bk.alms.map eAlm, 4), (bk.rows.map eRow, 2)], ∀ d ∈ p.1, ∃ ts, d = D.tup ts ∧ (ts.length : Int) = p.2 := by
    intro p hp d hd
    simp only [List.mem_cons, List.not_mem_nil, or_false] at hp
    rcases hp with rfl | rfl | rfl | rfl
    · obtain ⟨m, _, rfl⟩ := List.mem_map.mp hd
      exact ⟨_, rfl, rfl⟩
    · obtain ⟨m, _, rfl⟩ := List.mem_map.mp hd
      exact ⟨_, rfl, rfl⟩
    · obtain ⟨m, _, rfl⟩ := List.mem_map.mp hd
      exact ⟨_, rfl, rfl⟩
    · obtain ⟨m, _, rfl⟩ := List.mem_map.mp hd
      exact ⟨_, rfl, rfl⟩
  refine sd_cons (ss_expr (ee_call cR hr (by decide) (ea_cons (EE.cast (ee_all B.all (EO.ee (EO.cast (eo_lc2 (vs1 := [12]) (own := [("some", 13), ("many", 14), ("part", 12)]) (fun p : List D × Int => .tup [.lst p.1, .int p.2]) (fun p => p.1) (fun d => d) (fun _ _ => .bl true) (fun p => [(13, .lst p.1), (14, .int p.2)]) (fun _ d => [(12, d)]) S.nd (blkOk_by (N := bookN) (sc := C8.fnScope (mth 22 0)) (by decide +kernel)) (by decide) (ei_lst (ee_v 8 (.lst ([(bk.modes.map eMode, (3 : Int)), (bk.cmds.map eCmd, 5), (bk.alms.map eAlm, 4), (bk.rows.map eRow, 2)].map fun p => D.tup [.lst p.1, .int p.2])))) ?_ (fun d hd s H C cl fp => gd_tup (gds_cons (gd_name 13 S.nd) (gds_cons (gd_name 14 S.nd) gds_nil))) (by simp) (fun d hd s H C cl fp => (ei_lst (ee_v 13 (.lst d.1))).cast (List.map_id' _).symm) (fun d hd d' hd' s H C cl fp => gd_name 12 S.nd) (by simp) (fun d hd d' hd' s H C cl fp => ?_)) (flat_true _ _)))) (by rw [true_all])) ea_nil) ⟨rfl, rfl⟩) ?_)
  · simp only [List.flatMap_cons, List.flatMap_nil, List.length_append, List.length_map, List.length_nil]
    omega
  · obtain ⟨ts, rfl, ht⟩ := hp d hd d' hd'
    exact EE.cast (ee_c2 cmp_eqI (ee_lenT (ds := ts) B.len (ee_v 12 (.tup ts))) (ee_v 14 (.int d.2))) (congrArg D.bl (decide_eq_true ht))
  -- names
  have nmH : NamesOk bk.holds 1 6 := ⟨by have := hb.h1; omega, by have := hb.h6; omega, hb.hn, hb.hd, hb.hf⟩
  have m0 : 1 ≤ bk.modes.length := List.length_pos_iff.mpr hb.m0
  have nmM : NamesOk (bk.modes.map Mode.nm) 1 5 := ⟨by rw [List.length_map]; omega, by rw [List.length_map]; omega, (fun z hz => by obtain ⟨m, hm, rfl⟩ := List.mem_map.mp hz; exact (hb.mt m hm).1), hb.mn, by rw [List.length_map]; omega⟩
  have nmC : NamesOk (bk.cmds.map Cmd.nm) 0 8 := ⟨by omega, by rw [List.length_map]; omega, (fun z hz => by obtain ⟨m, hm, rfl⟩ := List.mem_map.mp hz; exact (hb.ct m hm).1), hb.cn, by rw [List.length_map]; omega⟩
  have nmA : NamesOk (bk.alms.map Alm.nm) 0 4 := ⟨by omega, by rw [List.length_map]; omega, (fun z hz => by obtain ⟨m, hm, rfl⟩ := List.mem_map.mp hz; exact (hb.al m hm).1), hb.an, by rw [List.length_map]; omega⟩
  have nmR : NamesOk (bk.rows.map Row.nm) 0 3 := ⟨by omega, by rw [List.length_map]; omega, (fun z hz => by obtain ⟨m, hm, rfl⟩ := List.mem_map.mp hz; exact (hb.rs m hm).1), hb.rn, by rw [List.length_map]; omega⟩
  refine sd_cons (ss_expr (ee_call cN hr (by decide) (ea_cons (ee_v 1 (eStrs bk.holds)) (ea_cons ee_int (ea_cons ee_int ea_nil))) ⟨bk.holds, 1, 6, nmH, rfl, rfl⟩) ?_)
  refine sd_cons (ss_expr (ee_call cN hr (by decide) (ea_cons (ee_call cO hr (by decide) (ea_cons (ee_v 2 (.lst (bk.modes.map eMode))) ea_nil) ⟨Mode, bk.modes, eMode, Mode.nm, fun x _ => ⟨_, rfl⟩, by omega, rfl, rfl⟩) (ea_cons ee_int (ea_cons ee_int ea_nil))) ⟨_, 1, 5, nmM, rfl, rfl⟩) ?_)
  refine sd_cons (ss_expr (ee_call cN hr (by decide) (ea_cons (ee_call cO hr (by decide) (ea_cons (ee_v 4 (.lst (bk.cmds.map eCmd))) ea_nil) ⟨Cmd, bk.cmds, eCmd, Cmd.nm, fun x _ => ⟨_, rfl⟩, by omega, rfl, rfl⟩) (ea_cons ee_int (ea_cons ee_int ea_nil))) ⟨_, 0, 8, nmC, rfl, rfl⟩) ?_)
  refine sd_cons (ss_expr (ee_call cN hr (by decide) (ea_cons (ee_call cO hr (by decide) (ea_cons (ee_v 5 (.lst (bk.alms.map eAlm))) ea_nil) ⟨Alm, bk.alms, eAlm, Alm.nm, fun x _ => ⟨_, rfl⟩, by omega, rfl, rfl⟩) (ea_cons ee_int (ea_cons ee_int ea_nil))) ⟨_, 0, 4, nmA, rfl, rfl⟩) ?_)
  refine sd_cons (ss_expr (ee_call cN hr (by decide) (ea_cons (ee_call cO hr (by decide) (ea_cons (ee_v 6 (.lst (bk.rows.map eRow))) ea_nil) ⟨Row, bk.rows, eRow, Row.nm, fun x _ => ⟨_, rfl⟩, by omega, rfl, rfl⟩) (ea_cons ee_int (ea_cons ee_int ea_nil))) ⟨_, 0, 3, nmR, rfl, rfl⟩) ?_)
  refine sd_cons (ss_asg 9 (ee_call cO hr (by decide) (ea_cons (ee_v 2 (.lst (bk.modes.map eMode))) ea_nil) ⟨Mode, bk.modes, eMode, Mode.nm, fun x _ => ⟨_, rfl⟩, by omega, rfl, rfl⟩) ?_ S.nd)
  -- modes
  refine sd_cons (ss_expr (ee_call cR hr (by decide) (ea_cons (ee_allT (own := [("_", 15), ("on", 16), ("off", 17)]) B.all eMode (fun m => [(15, .str m.nm), (16, eLot m.von), (17, eLot m.voff)]) S.nd (blkOk_by (N := bookN) (sc := C8.fnScope (mth 22 0)) (by decide +kernel)) (ei_lst (ee_v 2 (.lst (bk.modes.map eMode)))) (by omega) (fun d hd s H C cl fp => gd_tup (gds_cons (gd_name 15 S.nd) (gds_cons (gd_name 16 S.nd) (gds_cons (gd_name 17 S.nd) gds_nil)))) (by simp) (fun d hd s H C cl fp => ee_call cT hr (by decide) (ea_cons (ee_v 16 (eLot d.von)) (ea_cons (ee_v 17 (eLot d.voff)) (ea_cons (ee_v 1 (eStrs bk.holds)) ea_nil))) ⟨d.von, d.voff, bk.holds, (hb.mt d hd).2, rfl, rfl⟩)) ea_nil) ⟨rfl, rfl⟩) ?_)
  -- barred
  refine sd_cons (ss_expr (ee_call cR hr (by decide) (ea_cons (EE.cast (ee_and (ee_c2 cmp_le (ee_lenL B.len (ee_v 3 (.lst (bk.barred.map eLot)))) ee_int) fun _ => ee_one' (ee_c2 cmp_eqI (ee_lenSetT B.len B.set hr.units (ee_v 3 (.lst (bk.barred.map eLot))) hb.bnd hb.b8) (ee_lenL B.len (ee_v 3 (.lst (bk.barred.map eLot)))))) ?_) ea_nil) ⟨rfl, rfl⟩) ?_)
  · have := hb.b8
    simp only [List.length_map]
    rw [decide_eq_true (show (bk.barred.length : Int) ≤ 8 by omega), decide_eq_true (show True from trivial)]
    rfl
  refine sd_cons (ss_expr (ee_call cR hr (by decide) (ea_cons (ee_allT (own := [("lot", 18)]) B.all eLot (fun l => [(18, eLot l)]) S.nd (blkOk_by (N := bookN) (sc := C8.fnScope (mth 22 0)) (by decide +kernel)) (ei_lst (ee_v 3 (.lst (bk.barred.map eLot)))) (by have := hb.b8; omega) (fun d hd s H C cl fp => gd_name 18 S.nd) (by simp) (fun d hd s H C cl fp => EE.cast (ee_and (ee_c2 cmp_gt (ee_lenT B.len (ee_v 18 (eLot d))) ee_int) fun _ => ee_one' (ee_call cL hr (by decide) (ea_cons (ee_v 18 (eLot d)) (ea_cons (ee_v 1 (eStrs bk.holds)) ea_nil)) ⟨d, bk.holds, hb.bt d hd, rfl, rfl⟩)) (by have := hb.b1 d hd; rw [List.length_map, decide_eq_true (by omega)]; rfl))) ea_nil) ⟨rfl, rfl⟩) ?_)
  -- commands
  refine sd_cons (ss_expr (ee_call cR hr (by decide) (ea_cons (ee_allT (own := [("_", 15), ("some", 13)]) B.all eCmd (fun c => [(15, .str c.nm), (13, eLot c.ms), (15, eLot c.von), (15, eLot c.voff), (15, eOpt c.to)]) S.nd (blkOk_by (N := bookN) (sc := C8.fnScope (mth 22 0)) (by decide +kernel)) (ei_lst (ee_v 4 (.lst (bk.cmds.map eCmd)))) (by omega) (fun d hd s H C cl fp => gd_tup (gds_cons (gd_name 15 S.nd) (gds_cons (gd_name 13 S.nd) (gds_cons (gd_name 15 S.nd) (gds_cons (gd_name 15 S.nd) (gds_cons (gd_name 15 S.nd) gds_nil)))))) (by simp) (fun d hd s H C cl fp => ee_call cL hr (by decide) (ea_cons (ee_v 13 (eLot d.ms)) (ea_cons (ee_v 9 (eStrs (bk.modes.map Mode.nm))) ea_nil)) ⟨d.ms, _, hb.cm d hd, rfl, rfl⟩)) ea_nil) ⟨rfl, rfl⟩) ?_)
  refine sd_cons (ss_expr (ee_call cR hr (by decide) (ea_cons (ee_allT (own := [("_", 15), ("on", 16), ("off", 17), ("to", 19)]) B.all eCmd (fun c => [(15, .str c.nm), (15, eLot c.ms), (16, eLot c.von), (17, eLot c.voff), (19, eOpt c.to)]) S.nd (blkOk_by (N := bookN) (sc := C8.fnScope (mth 22 0)) (by decide +kernel)) (ei_lst (ee_v 4 (.lst (bk.cmds.map eCmd)))) (by omega) (fun d hd s H C cl fp => gd_tup (gds_cons (gd_name 15 S.nd) (gds_cons (gd_name 15 S.nd) (gds_cons (gd_name 16 S.nd) (gds_cons (gd_name 17 S.nd) (gds_cons (gd_name 19 S.nd) gds_nil)))))) (by simp) (fun d hd s H C cl fp => ee_call cE hr (by decide) (ea_cons (ee_v 16 (eLot d.von)) (ea_cons (ee_v 17 (eLot d.voff)) (ea_cons (ee_v 19 (eOpt d.to)) (ea_cons (ee_v 1 (eStrs bk.holds)) (ea_cons (ee_v 9 (eStrs (bk.modes.map Mode.nm))) ea_nil))))) ⟨d.von, d.voff, bk.holds, d.to, _, (hb.ct d hd).2.1, (hb.ct d hd).2.2.1, rfl, rfl⟩)) ea_nil) ⟨rfl, rfl⟩) ?_)
  -- alarms
  refine sd_cons (ss_expr (ee_call cR hr (by decide) (ea_cons (ee_allT (own := [("_", 15), ("on", 16), ("off", 17), ("to", 19)]) B.all eAlm (fun c => [(15, .str c.nm), (16, eLot c.von), (17, eLot c.voff), (19, eOpt c.to)]) S.nd (blkOk_by (N := bookN) (sc := C8.fnScope (mth 22 0)) (by decide +kernel)) (ei_lst (ee_v 5 (.lst (bk.alms.map eAlm)))) (by omega) (fun d hd s H C cl fp => gd_tup (gds_cons (gd_name 15 S.nd) (gds_cons (gd_name 16 S.nd) (gds_cons (gd_name 17 S.nd) (gds_cons (gd_name 19 S.nd) gds_nil))))) (by simp) (fun d hd s H C cl fp => ee_call cE hr (by decide) (ea_cons (ee_v 16 (eLot d.von)) (ea_cons (ee_v 17 (eLot d.voff)) (ea_cons (ee_v 19 (eOpt d.to)) (ea_cons (ee_v 1 (eStrs bk.holds)) (ea_cons (ee_v 9 (eStrs (bk.modes.map Mode.nm))) ea_nil))))) ⟨d.von, d.voff, bk.holds, d.to, _, (hb.al d hd).2.1, (hb.al d hd).2.2, rfl, rfl⟩)) ea_nil) ⟨rfl, rfl⟩) ?_)
  -- rows
  refine sd_cons (ss_expr (ee_call cR hr (by decide) (ea_cons (ee_allT (own := [("_", 15), ("steps", 20)]) B.all eRow (fun r => [(15, .str r.nm), (20, .tup (r.steps.map eStep))]) S.nd (blkOk_by (N := bookN) (sc := C8.fnScope (mth 22 0)) (by decide +kernel)) (ei_lst (ee_v 6 (.lst (bk.rows.map eRow)))) (by omega) (fun d hd s H C cl fp => gd_tup (gds_cons (gd_name 15 S.nd) (gds_cons (gd_name 20 S.nd) gds_nil))) (by simp) (fun d hd s H C cl fp => EE.cast (ee_chain ee_int (ee_lenT B.len (ee_v 20 (.tup (d.steps.map eStep)))) ee_int) (by have g1 := hb.s4 d hd; have g2 := (hb.rs d hd).2.1; rw [List.length_map, decide_eq_true (by omega), decide_eq_true (by omega)]; rfl))) ea_nil) ⟨rfl, rfl⟩) ?_)
  refine sd_cons (ss_expr (ee_call cR hr (by decide) (ea_cons (EE.cast (ee_all B.all (EO.ee (EO.cast (eo_lc2 (vs1 := [21]) (own := [("_", 15), ("steps", 20), ("step", 21)]) eRow (fun r => r.steps) eStep (fun _ _ => .bl true) (fun r => [(15, .str r.nm), (20, .tup (r.steps.map eStep))]) (fun _ d => [(21, eStep d)]) S.nd (blkOk_by (N := bookN) (sc := C8.fnScope (mth 22 0)) (by decide +kernel)) (by decide) (ei_lst (ee_v 6 (.lst (bk.rows.map eRow)))) ?_ (fun d hd s H C cl fp => gd_tup (gds_cons (gd_name 15 S.nd) (gds_cons (gd_name 20 S.nd) gds_nil))) (by simp) (fun d hd s H C cl fp => ei_tup (ee_v 20 (.tup (d.steps.map eStep)))) (fun d hd d' hd' s H C cl fp => gd_name 21 S.nd) (by simp) (fun d hd d' hd' s H C cl fp => ?_)) (flat_true _ _)))) (by rw [true_all])) ea_nil) ⟨rfl, rfl⟩) ?_)
  · have : ∀ (l : List Row), (∀ r ∈ l, r.steps.length ≤ 4) → (l.flatMap fun r => r.steps).length ≤ l.length * 4 := fun l => by
      induction l with
      | nil => intro _; exact Nat.le_refl _
      | cons x r ih =>
        intro h
        have h1 := h x List.mem_cons_self
        have h2 := ih fun q hq => h q (List.mem_cons_of_mem _ hq)
        rw [List.flatMap_cons, List.length_append, List.length_cons]
        omega
    have := this bk.rows hb.s4
    omega
  · obtain ⟨g1, g2, g3⟩ := (hb.rs d hd).2.2.2 d' hd'
    exact ee_call cS hr (by decide) (ea_cons (ee_v 21 (eStep d')) (ea_cons (ee_call cO hr (by decide) (ea_cons (ee_v 4 (.lst (bk.cmds.map eCmd))) ea_nil) ⟨Cmd, bk.cmds, eCmd, Cmd.nm, fun x _ => ⟨_, rfl⟩, by omega, rfl, rfl⟩) ea_nil)) ⟨d', _, g1, g2, g3, rfl, rfl⟩
  -- quiet
  refine sd_cons (ss_expr (ee_call cR hr (by decide) (ea_cons (?_ : EE _ _ _ (.bl true)) ea_nil) ⟨rfl, rfl⟩) ?_)
  · cases hq : bk.quiet with
    | none => exact EE.cast (ee_or (y := true) (ee_c2 (cmp_isN (d := .non)) (ee_v 7 .non) ee_non) fun h => nomatch h) rfl
    | some q =>
      obtain ⟨q1, q2⟩ := hb.q q hq
      exact EE.cast (ee_or (ee_c2 (cmp_isN (d := .int q)) (ee_v 7 (.int q)) ee_non) fun _ => ee_one' (ee_chain ee_int (ee_v 7 (.int q)) ee_int)) (by rw [decide_eq_true q1, decide_eq_true q2]; rfl)
  refine sd_cons (ss_fld 0 rfl (EO.ee (eo_sortS B.sorted hr.units (ee_v 1 (eStrs bk.holds)) (fun x hx => (hb.hn x hx).ok))) ?_ o.cl (o.na _ (by decide)))
  refine sd_cons (ss_fld 0 rfl (EO.ee (eo_sortLots B.sorted hr.units (ee_v 3 (.lst (bk.barred.map eLot))) (fun l hl => ⟨fun z hz => ((hb.bt l hl).nm z hz).ok, fun h => by have := hb.b1 l hl; rw [h] at this; exact absurd this (by decide)⟩))) ?_ o.cl (o.na _ (by decide)))
  -- named
  have ndK : (bk.cmds.map fun c => (Sum.inr c.nm : Key)).Nodup := by
    have := hb.cn
    rw [show (fun c : Cmd => (Sum.inr c.nm : Key)) = Sum.inr ∘ Cmd.nm from rfl, ← List.map_map]
    exact nodup_inr this
  refine sd_cons (ss_asg 10 (ee_dc (own := [("command", 22)]) eCmd (fun c => .inr c.nm) eCmd (fun c => [(22, eCmd c)]) S.nd (blkOk_by (N := bookN) (sc := C8.fnScope (mth 22 0)) (by decide +kernel)) (ei_lst (ee_v 4 (.lst (bk.cmds.map eCmd)))) (by omega) ndK (fun d hd s H C cl fp => gd_name 22 S.nd) (by simp) (fun d hd s H C cl fp => ee_ixT (i := 0) (ee_v 22 (eCmd d)) ee_int rfl) (fun d hd s H C cl fp => ee_v 22 (eCmd d))) ?_ S.nd)
  -- ordered
  have ek : (bk.cmds.map fun c => (Sum.inr c.nm : Key)) = (bk.cmds.map Cmd.nm).map .inr := by rw [List.map_map]; rfl
  refine sd_cons (ss_setLc 11 (own := [("name", 23)]) .str (fun x => ((bk.cmd? x).map eCmd).getD .non) (fun x => [(23, .str x)]) S.nd (blkOk_by (N := bookN) (sc := C8.fnScope (mth 22 0)) (by decide +kernel)) (ei_lst (EO.ee (eo_sortDk (ks := bk.cmds.map Cmd.nm) B.sorted (ee_v 10 (.dk ((bk.cmds.map Cmd.nm).map .inr) (bk.cmds.map eCmd)) (by rw [← ek]; rfl)) (by rw [List.length_map]; omega)))) ?_ (fun d hd s H C cl fp => gd_name 23 S.nd) (by simp) (fun d hd s H C cl fp => ?_) (fun q => ?_))
  · rw [(sortS_perm _).length_eq, List.length_map]
    omega
  · have hd' : d ∈ bk.cmds.map Cmd.nm := (sortS_perm _).mem_iff.mp hd
    obtain ⟨c, hc⟩ := cmd?_of hd'
    rw [hc]
    refine ee_dget (k := .inr d) (ks := bk.cmds.map fun c => .inr c.nm) (ds := bk.cmds.map eCmd) (Rm.u1 hr) (ee_v 10 _) (ee_v 23 (.str d)) ?_
    rw [dkD_map Cmd.nm]
    show (bk.cmd? d).map _ = _
    rw [hc]
    rfl
  refine sd_know 11 (p := q) (ds := (sortS (bk.cmds.map Cmd.nm)).map fun x => ((bk.cmd? x).map eCmd).getD .non) (by kernel_rfl!) ?_
  have eo : ((sortS (bk.cmds.map Cmd.nm)).map fun x => ((bk.cmd? x).map eCmd).getD .non) = (cmdsM bk.cmds).map eCmd := by
    unfold cmdsM
    have : ∀ l : List Str, (∀ x ∈ l, x ∈ bk.cmds.map Cmd.nm) → (l.map fun x => ((bk.cmd? x).map eCmd).getD .non) = (l.filterMap fun x => bk.cmds.find? fun m => decide (m.nm = x)).map eCmd := fun l => by
      induction l with
      | nil => intro _; rfl
      | cons x r ih =>
        intro h
        obtain ⟨c, hc⟩ := cmd?_of (h x List.mem_cons_self)
        have hc' : bk.cmds.find? (fun m => decide (m.nm = x)) = some c := hc
        rw [List.map_cons, ih fun y hy => h y (List.mem_cons_of_mem _ hy), hc]
        simp only [List.filterMap_cons, hc', List.map_cons]
        rfl
    exact this _ fun x hx => (sortS_perm _).mem_iff.mp hx
  rw [eo]
  obtain ⟨t1, g1⟩ := Gg.mode
  obtain ⟨t2, g2⟩ := Gg.command
  obtain ⟨t3, g3⟩ := Gg.alarm
  obtain ⟨t4, g4⟩ := Gg.row
  refine sd_cons (ss_fld 0 rfl (eo_disp (kds := [(.inr "mode", .lst (bk.modes.map eMode)), (.inr "command", .lst ((cmdsM bk.cmds).map eCmd)), (.inr "alarm", .lst (bk.alms.map eAlm)), (.inr "row", .lst (bk.rows.map eRow))]) (eps_cons (ee_globS g1) (EO.ee (eo_listL B.list (ee_v 2 (.lst (bk.modes.map eMode))))) (eps_cons (ee_globS g2) (ee_v 11 (.lst ((cmdsM bk.cmds).map eCmd))) (eps_cons (ee_globS g3) (EO.ee (eo_listL B.list (ee_v 5 (.lst (bk.alms.map eAlm))))) (eps_cons (ee_globS g4) (EO.ee (eo_listL B.list (ee_v 6 (.lst (bk.rows.map eRow))))) eps_nil)))) (by show ([.inr "mode", .inr "command", .inr "alarm", .inr "row"] : List Key).Nodup; decide)) ?_ o.cl (o.na _ (by decide)))
  refine sd_cons (ss_fld 0 rfl (ee_v 7 (eOptI bk.quiet)) (sd_nil ?_) o.cl (o.na _ (by decide)))
  exact ⟨_, rfl, rfl⟩
end
end Fw
namespace Fw
open PySem PySem.Spec PyProof.Rows L2
section
variable {P : Program} {w : World} {K : PySem.W.Frag} {mg : Str → Option Value} {base : Heap} {CB CG : Addr}
def T_pr (CB : Addr) (g : Book → List D) (ds es : List D) : Prop := ∃ b, ds = [dBook CB b] ∧ es = g b
def T_pv (CB : Addr) (g : Book → D) (ds : List D) (d : D) : Prop := ∃ b, b.modes ≠ [] ∧ ds = [dBook CB b] ∧ d = g b
theorem prp {k : Nat} {C p g : Addr} {x : Str} {fd : FuncData} {ps : List Str} {sp : Sp} (c : Cls K C) (pr : PropOf K C x p g) (F : FnOk P w K mg base C8.CX0 k g fd ps sp) (b : Binds K fd ps []) : Prp P w K mg base k C x sp := ⟨p, g, fd, ps, c, pr, F, b⟩
theorem p_holds {p g : Addr} {fd : FuncData} (pr : PropOf K CB "holds" p g) (F : C8.Fun K "holds" "Book.holds" (mth 22 1) g fd) (b : Binds K fd ["self"] []) (B : Bt mg) (o : Own K CB bookNs) : Prp P w K mg base 1 CB "holds" (spO ⟨P, w, K⟩ (T_pr CB fun b => b.holds.map .str)) := by
  have S : FnScope ["self"] ["self"] (C8.fnScope (mth 22 1)) := C8.fnScope_by (by decide +kernel)
  refine prp o.cl pr (fnO _ F S (fun ds d ⟨_, h, _⟩ => by rw [h]; rfl) (by decide) fun cdv A outer s H E hr ds d h => ?_) b
  obtain ⟨bk, rfl, rfl⟩ := h
  exact sd_cons (ss_retO (eo_listL B.list (ee_fld (ee_v 0 (dBook CB bk)) o.cl (o.na "_holds" (by decide)) rfl)) fun q => ⟨q, rfl⟩)
theorem p_barred {p g : Addr} {fd : FuncData} (pr : PropOf K CB "barred" p g) (F : C8.Fun K "barred" "Book.barred" (mth 22 3) g fd) (b : Binds K fd ["self"] []) (B : Bt mg) (o : Own K CB bookNs) : Prp P w K mg base 1 CB "barred" (spO ⟨P, w, K⟩ (T_pr CB fun b => b.barred.map eLot)) := by
  have S : FnScope ["self"] ["self"] (C8.fnScope (mth 22 3)) := C8.fnScope_by (by decide +kernel)
  refine prp o.cl pr (fnO _ F S (fun ds d ⟨_, h, _⟩ => by rw [h]; rfl) (by decide) fun cdv A outer s H E hr ds d h => ?_) b
  obtain ⟨bk, rfl, rfl⟩ := h
  exact sd_cons (ss_retO (eo_listL B.list (ee_fld (ee_v 0 (dBook CB bk)) o.cl (o.na "_barred" (by decide)) rfl)) fun q => ⟨q, rfl⟩)
theorem p_modes {p g : Addr} {fd : FuncData} (pr : PropOf K CB "modes" p g) (F : C8.Fun K "modes" "Book.modes" (mth 22 2) g fd) (b : Binds K fd ["self"] []) (B : Bt mg) (Gg : Gs mg) (o : Own K CB bookNs) : Prp P w K mg base 1 CB "modes" (spO ⟨P, w, K⟩ (T_pr CB fun b => b.modes.map eMode)) := by
  have S : FnScope ["self"] ["self"] (C8.fnScope (mth 22 2)) := C8.fnScope_by (by decide +kernel)
  refine prp o.cl pr (fnO _ F S (fun ds d ⟨_, h, _⟩ => by rw [h]; rfl) (by decide) fun cdv A outer s H E hr ds d h => ?_) b
  obtain ⟨bk, rfl, rfl⟩ := h
  obtain ⟨t, g1⟩ := Gg.mode
  exact sd_cons (ss_retO (eo_listL B.list (ee_dget (k := .inr "mode") (Rm.u1 hr) (ee_fld (ee_v 0 (dBook CB bk)) o.cl (o.na "_parts" (by decide)) rfl) (ee_globS g1) rfl)) fun q => ⟨q, rfl⟩)
theorem p_commands {p g : Addr} {fd : FuncData} (pr : PropOf K CB "commands" p g) (F : C8.Fun K "commands" "Book.commands" (mth 22 4) g fd) (b : Binds K fd ["self"] []) (B : Bt mg) (Gg : Gs mg) (o : Own K CB bookNs) : Prp P w K mg base 1 CB "commands" (spO ⟨P, w, K⟩ (T_pr CB fun b => b.cmds.map eCmd)) := by
  have S : FnScope ["self"] ["self"] (C8.fnScope (mth 22 4)) := C8.fnScope_by (by decide +kernel)
  refine prp o.cl pr (fnO _ F S (fun ds d ⟨_, h, _⟩ => by rw [h]; rfl) (by decide) fun cdv A outer s H E hr ds d h => ?_) b
  obtain ⟨bk, rfl, rfl⟩ := h
  obtain ⟨t, g1⟩ := Gg.command
  exact sd_cons (ss_retO (eo_listL B.list (ee_dget (k := .inr "command") (Rm.u1 hr) (ee_fld (ee_v 0 (dBook CB bk)) o.cl (o.na "_parts" (by decide)) rfl) (ee_globS g1) rfl)) fun q => ⟨q, rfl⟩)
theorem p_alarms {p g : Addr} {fd : FuncData} (pr : PropOf K CB "alarms" p g) (F : C8.Fun K "alarms" "Book.alarms" (mth 22 5) g fd) (b : Binds K fd ["self"] []) (B : Bt mg) (Gg : Gs mg) (o : Own K CB bookNs) : Prp P w K mg base 1 CB "alarms" (spO ⟨P, w, K⟩ (T_pr CB fun b => b.alms.map eAlm)) := by
  have S : FnScope ["self"] ["self"] (C8.fnScope (mth 22 5)) := C8.fnScope_by (by decide +kernel)
  refine prp o.cl pr (fnO _ F S (fun ds d ⟨_, h, _⟩ => by rw [h]; rfl) (by decide) fun cdv A outer s H E hr ds d h => ?_) b
  obtain ⟨bk, rfl, rfl⟩ := h
  obtain ⟨t, g1⟩ := Gg.alarm
  exact sd_cons (ss_retO (eo_listL B.list (ee_dget (k := .inr "alarm") (Rm.u1 hr) (ee_fld (ee_v 0 (dBook CB bk)) o.cl (o.na "_parts" (by decide)) rfl) (ee_globS g1) rfl)) fun q => ⟨q, rfl⟩)
theorem p_rows {p g : Addr} {fd : FuncData} (pr : PropOf K CB "rows" p g) (F : C8.Fun K "rows" "Book.rows" (mth 22 6) g fd) (b : Binds K fd ["self"] []) (B : Bt mg) (Gg : Gs mg) (o : Own K CB bookNs) : Prp P w K mg base 1 CB "rows" (spO ⟨P, w, K⟩ (T_pr CB fun b => b.rows.map eRow)) := by
  have S : FnScope ["self"] ["self"] (C8.fnScope (mth 22 6)) := C8.fnScope_by (by decide +kernel)
  refine prp o.cl pr (fnO _ F S (fun ds d ⟨_, h, _⟩ => by rw [h]; rfl) (by decide) fun cdv A outer s H E hr ds d h => ?_) b
  obtain ⟨bk, rfl, rfl⟩ := h
  obtain ⟨t, g1⟩ := Gg.row
  exact sd_cons (ss_retO (eo_listL B.list (ee_dget (k := .inr "row") (Rm.u1 hr) (ee_fld (ee_v 0 (dBook CB bk)) o.cl (o.na "_parts" (by decide)) rfl) (ee_globS g1) rfl)) fun q => ⟨q, rfl⟩)
theorem p_quiet {p g : Addr} {fd : FuncData} (pr : PropOf K CB "quiet" p g) (F : C8.Fun K "quiet" "Book.quiet" (mth 22 7) g fd) (b : Binds K fd ["self"] []) (o : Own K CB bookNs) : Prp P w K mg base 1 CB "quiet" (spP ⟨P, w, K⟩ (T_pv CB fun b => eOptI b.quiet)) := by
  have S : FnScope ["self"] ["self"] (C8.fnScope (mth 22 7)) := C8.fnScope_by (by decide +kernel)
  refine prp o.cl pr (fnP _ F S (fun ds d ⟨_, _, h, _⟩ => by rw [h]; rfl) (by decide) fun cdv A outer s H E hr ds d h => ?_) b
  obtain ⟨bk, _, rfl, rfl⟩ := h
  exact sd_cons (ss_ret (ee_fld (ee_v 0 (dBook CB bk)) o.cl (o.na "_quiet" (by decide)) rfl) rfl)
theorem p_safe {p g : Addr} {fd : FuncData} (pr : PropOf K CB "safe" p g) (F : C8.Fun K "safe" "Book.safe" (mth 22 8) g fd) (b : Binds K fd ["self"] []) (Gg : Gs mg) (o : Own K CB bookNs) : Prp P w K mg base 1 CB "safe" (spP ⟨P, w, K⟩ (T_pv CB fun b => .str (homeM b))) := by
  have S : FnScope ["self"] ["self"] (C8.fnScope (mth 22 8)) := C8.fnScope_by (by decide +kernel)
  refine prp o.cl pr (fnP _ F S (fun ds d ⟨_, _, h, _⟩ => by rw [h]; rfl) (by decide) fun cdv A outer s H E hr ds d h => ?_) b
  obtain ⟨bk, hm, rfl, rfl⟩ := h
  obtain ⟨t, g1⟩ := Gg.mode
  cases e : bk.modes with
  | nil => exact absurd e hm
  | cons m r =>
    refine sd_cons (ss_ret (ee_ixT (i := 0) (ee_ixL (i := 0) (d := eMode m) (ee_dget (k := .inr "mode") (Rm.u1 hr) (ee_fld (ee_v 0 (dBook CB bk)) o.cl (o.na "_parts" (by decide)) rfl) (ee_globS g1) rfl) ee_int (by rw [e]; exact (atI_nat (j := 0) rfl))) ee_int rfl) ?_)
    show Slot.im (.str m.nm) = Slot.im (.str (homeM bk))
    unfold homeM
    rw [e]
    rfl
def gearF (b : Book) : List (Str × Fld) := [("home", .im (.str (homeM b))), ("patience", .im (eOptI b.quiet)), ("turns", .im (.dk (b.modes.map fun m => .inr m.nm) (b.modes.map fun m => .tup [eLot m.von, eLot m.voff]))), ("effects", .im (.dk (b.cmds.map fun c => .inr c.nm) (b.cmds.map fun c => .tup [eLot c.ms, eLot c.von, eLot c.voff, eOpt c.to]))),
  ("responses", .im (.lst (b.alms.map fun a => .tup [.str a.nm, .tup [eLot a.von, eLot a.voff, eOpt a.to]]))), ("series", .im (.dk (b.rows.map fun r => .inr r.nm) (b.rows.map fun r => .tup (r.steps.map eStep))))]
def T_Gears (CB : Addr) (ds : List D) (R : List (Str × Fld) → Prop) : Prop := ∃ b, BOk b ∧ ds = [dBook CB b] ∧ R = fun fs => fs = gearF b
theorem nodup_inrM {α : Type} (f : α → Str) {l : List α} (h : (l.map f).Nodup) : (l.map fun x => (Sum.inr (f x) : Key)).Nodup := by
  rw [show (fun x => (Sum.inr (f x) : Key)) = Sum.inr ∘ f from rfl, ← List.map_map]
  exact nodup_inr h
theorem k_Gears {f : Addr} {fd : FuncData} (M : Mk K CG f) (hm : mg "Gears" = some (.ref CG)) (F : C8.Fun K "__init__" "Gears.__init__" (mth 28 0) f fd) (b : Binds K fd ["self", "book"] []) (B : Bt mg) (o : Own K CG gearNs)
    (p1 : Prp P w K mg base 1 CB "safe" (spP ⟨P, w, K⟩ (T_pv CB fun b => .str (homeM b)))) (p2 : Prp P w K mg base 1 CB "quiet" (spP ⟨P, w, K⟩ (T_pv CB fun b => eOptI b.quiet))) (p3 : Prp P w K mg base 1 CB "modes" (spO ⟨P, w, K⟩ (T_pr CB fun b => b.modes.map eMode)))
    (p4 : Prp P w K mg base 1 CB "commands" (spO ⟨P, w, K⟩ (T_pr CB fun b => b.cmds.map eCmd))) (p5 : Prp P w K mg base 1 CB "alarms" (spO ⟨P, w, K⟩ (T_pr CB fun b => b.alms.map eAlm))) (p6 : Prp P w K mg base 1 CB "rows" (spO ⟨P, w, K⟩ (T_pr CB fun b => b.rows.map eRow))) :
    C8.Mak P w K mg base 3 "Gears" CG (spI ⟨P, w, K⟩ CG (T_Gears CB)) [] := by
  have S : FnScope ["self", "book", "name", "on", "off", "modes", "to", "steps"] ["self", "book"] (C8.fnScope (mth 28 0)) := C8.fnScope_by (by decide +kernel)
  refine makI (T_Gears CB) M hm F b S (fun ds fs ⟨_, _, h, _⟩ => by rw [h]; rfl) (by decide) fun cdv A outer s H E hr p ds R h => ?_
  obtain ⟨bk, hb, rfl, rfl⟩ := h
  have e1 := hb.mf
  have e2 := hb.cf
  have e3 := hb.af
  have e4 := hb.rf
  refine sd_cons (ss_fld 0 rfl (ee_prop p1 hr (by decide) (ee_v 1 (dBook CB bk)) ⟨bk, hb.m0, rfl, rfl⟩) ?_ o.cl (o.na _ (by decide)))
  refine sd_cons (ss_fld 0 rfl (ee_prop p2 hr (by decide) (ee_v 1 (dBook CB bk)) ⟨bk, hb.m0, rfl, rfl⟩) ?_ o.cl (o.na _ (by decide)))
  refine sd_cons (ss_fld 0 rfl (ee_dc (own := [("name", 2), ("on", 3), ("off", 4)]) eMode (fun m => .inr m.nm) (fun m => .tup [eLot m.von, eLot m.voff]) (fun m => [(2, .str m.nm), (3, eLot m.von), (4, eLot m.voff)]) S.nd (blkOk_by (N := ["self", "book", "name", "on", "off", "modes", "to", "steps"]) (sc := C8.fnScope (mth 28 0)) (by decide +kernel)) (ei_lst (EO.ee (eo_prop p3 hr (by decide) (ee_v 1 (dBook CB bk)) ⟨bk, rfl, rfl⟩))) (by omega) (nodup_inrM _ hb.mn) (fun d hd s H C cl fp => gd_tup (gds_cons (gd_name 2 S.nd) (gds_cons (gd_name 3 S.nd) (gds_cons (gd_name 4 S.nd) gds_nil)))) (by simp) (fun d hd s H C cl fp => ee_v 2 (.str d.nm)) (fun d hd s H C cl fp => ee_tup (ea_cons (ee_v 3 (eLot d.von)) (ea_cons (ee_v 4 (eLot d.voff)) ea_nil)))) ?_ o.cl (o.na _ (by decide)))
  refine sd_cons (ss_fld 0 rfl (ee_dc (own := [("name", 2), ("modes", 5), ("on", 3), ("off", 4), ("to", 6)]) eCmd (fun m => .inr m.nm) (fun c => .tup [eLot c.ms, eLot c.von, eLot c.voff, eOpt c.to]) (fun m => [(2, .str m.nm), (5, eLot m.ms), (3, eLot m.von), (4, eLot m.voff), (6, eOpt m.to)]) S.nd (blkOk_by (N := ["self", "book", "name", "on", "off", "modes", "to", "steps"]) (sc := C8.fnScope (mth 28 0)) (by decide +kernel)) (ei_lst (EO.ee (eo_prop p4 hr (by decide) (ee_v 1 (dBook CB bk)) ⟨bk, rfl, rfl⟩))) (by omega) (nodup_inrM _ hb.cn) (fun d hd s H C cl fp => gd_tup (gds_cons (gd_name 2 S.nd) (gds_cons (gd_name 5 S.nd) (gds_cons (gd_name 3 S.nd) (gds_cons (gd_name 4 S.nd) (gds_cons (gd_name 6 S.nd) gds_nil)))))) (by simp) (fun d hd s H C cl fp => ee_v 2 (.str d.nm)) (fun d hd s H C cl fp => ee_tup (ea_cons (ee_v 5 (eLot d.ms)) (ea_cons (ee_v 3 (eLot d.von)) (ea_cons (ee_v 4 (eLot d.voff)) (ea_cons (ee_v 6 (eOpt d.to)) ea_nil)))))) ?_ o.cl (o.na _ (by decide)))
  refine sd_cons (ss_fld 0 rfl (EO.ee (eo_lc0 (own := [("name", 2), ("on", 3), ("off", 4), ("to", 6)]) eAlm (fun a => .tup [.str a.nm, .tup [eLot a.von, eLot a.voff, eOpt a.to]]) (fun m => [(2, .str m.nm), (3, eLot m.von), (4, eLot m.voff), (6, eOpt m.to)]) S.nd (blkOk_by (N := ["self", "book", "name", "on", "off", "modes", "to", "steps"]) (sc := C8.fnScope (mth 28 0)) (by decide +kernel)) (ei_lst (EO.ee (eo_prop p5 hr (by decide) (ee_v 1 (dBook CB bk)) ⟨bk, rfl, rfl⟩))) (by omega) (fun d hd s H C cl fp => gd_tup (gds_cons (gd_name 2 S.nd) (gds_cons (gd_name 3 S.nd) (gds_cons (gd_name 4 S.nd) (gds_cons (gd_name 6 S.nd) gds_nil))))) (by simp) (fun d hd s H C cl fp => ee_tup (ea_cons (ee_v 2 (.str d.nm)) (ea_cons (ee_tup (ea_cons (ee_v 3 (eLot d.von)) (ea_cons (ee_v 4 (eLot d.voff)) (ea_cons (ee_v 6 (eOpt d.to)) ea_nil)))) ea_nil))))) ?_ o.cl (o.na _ (by decide)))
  refine sd_cons (ss_fld 0 rfl (ee_dc (own := [("name", 2), ("steps", 7)]) eRow (fun m => .inr m.nm) (fun r => .tup (r.steps.map eStep)) (fun m => [(2, .str m.nm), (7, .tup (m.steps.map eStep))]) S.nd (blkOk_by (N := ["self", "book", "name", "on", "off", "modes", "to", "steps"]) (sc := C8.fnScope (mth 28 0)) (by decide +kernel)) (ei_lst (EO.ee (eo_prop p6 hr (by decide) (ee_v 1 (dBook CB bk)) ⟨bk, rfl, rfl⟩))) (by omega) (nodup_inrM _ hb.rn) (fun d hd s H C cl fp => gd_tup (gds_cons (gd_name 2 S.nd) (gds_cons (gd_name 7 S.nd) gds_nil))) (by simp) (fun d hd s H C cl fp => ee_v 2 (.str d.nm)) (fun d hd s H C cl fp => ee_v 7 (.tup (d.steps.map eStep)))) (sd_nil ?_) o.cl (o.na _ (by decide)))
  exact ⟨_, rfl, rfl⟩
def T_first (CB : Addr) (ds : List D) (d : D) : Prop := ∃ b, BOk b ∧ ds = [dBook CB b] ∧ d = eStg (firstM b)
theorem c_first {f : Addr} {fd : FuncData} (F : C8.Def K mg "first_standing" (top 32) f fd) (b : Binds K fd ["book"] []) (B : Bt mg) (p3 : Prp P w K mg base 1 CB "modes" (spO ⟨P, w, K⟩ (T_pr CB fun b => b.modes.map eMode))) : C8.Cal P w K mg base 3 "first_standing" (spP ⟨P, w, K⟩ (T_first CB)) [] := by
  have S : FnScope ["book", "name", "on", "_"] ["book"] (C8.fnScope (top 32)) := C8.fnScope_by (by decide +kernel)
  refine calP (T_first CB) F b S (fun ds d ⟨_, _, h, _⟩ => by rw [h]; rfl) (by decide) fun cdv A outer s H E hr ds d h => ?_
  obtain ⟨bk, hb, rfl, rfl⟩ := h
  cases e : bk.modes with
  | nil => exact absurd e hb.m0
  | cons m r =>
    have hm := hb.mt m (by rw [e]; exact List.mem_cons_self)
    have hf := hm.2.von.few
    refine sd_cons (ss_tup (ee_ixL (i := 0) (d := eMode m) (EO.ee (eo_prop p3 hr (by decide) (ee_v 0 (dBook CB bk)) ⟨bk, rfl, rfl⟩)) ee_int (by show atI (bk.modes.map eMode) 0 = _; rw [e]; exact (atI_nat (j := 0) rfl))) (gd_tup (gds_cons (gd_name 1 S.nd) (gds_cons (gd_name 2 S.nd) (gds_cons (gd_name 3 S.nd) gds_nil)))) ?_)
    refine sd_cons (ss_ret (ee_tup (ea_cons (ee_v 1 (.str m.nm)) (ea_cons (ee_tupleL B.tuple (EO.ee (eo_sortT B.sorted hr.units (ee_v 2 (eLot m.von)) (fun x hx => (hm.2.von.nm x hx).ok) (by omega)))) (ea_cons ee_non (ea_cons ee_int (ea_cons ee_int (ea_cons ee_int ea_nil))))))) ?_)
    show Slot.im _ = Slot.im (eStg (firstM bk))
    unfold firstM
    rw [e]
    rfl
end
end Fw
namespace Fw
open PySem PySem.Spec PyProof.Rows L2
def lcScope : Expr → Scope
  | .ListComp _ _ s _ => s
  | _ => ⟨.function, [], false, false, []⟩
def callArg : Expr → Expr
  | .Call _ (a :: _) _ _ => a
  | e => e
def retE : List Stmt → Expr
  | [.Return (some e) _] => e
  | _ => .Constant .none 0 ⟨0, 0, 0, 0⟩
def ordersM (b : Book) : List (Option Ord) := (none :: (b.cmds.map fun c => some (.go c.nm))) ++ ((sortS (b.rows.map Row.nm)).map fun n => some (.run n)) ++ [some .stop]
def lotsM (l : List Str) : List (List Str) := (List.range (l.length + 1)).flatMap fun m => combM (sortS l) m
def inputsM (b : Book) : List Inp := (lotsM (b.alms.map Alm.nm)).flatMap fun l => (ordersM b).map (Inp.mk l)
def isBarredM (b : Book) (l : List Str) : Bool := b.barred.any fun k => k.all fun h => decide (h ∈ l)
def hasBarredM (b : Book) (ms : List (List Str)) : Bool := ms.any (isBarredM b)
structure InpOk (b : Book) (i : Inp) : Prop where
  al : LotOf i.alms (b.alms.map Alm.nm)
  ord : OrdOk b i.ord
section
variable {P : Program} {w : World} {K : PySem.W.Frag} {mg : Str → Option Value} {base : Heap} {CB CG CS CT : Addr}
def T_orders (CB : Addr) (ds : List D) (d : D) : Prop := ∃ b, BOk b ∧ ds = [dBook CB b] ∧ d = .lst ((ordersM b).map eOrd)
theorem c_orders {f : Addr} {fd : FuncData} (F : C8.Def K mg "orders_of" (top 34) f fd) (b : Binds K fd ["book"] []) (B : Bt mg) (p4 : Prp P w K mg base 1 CB "commands" (spO ⟨P, w, K⟩ (T_pr CB fun b => b.cmds.map eCmd))) (p6 : Prp P w K mg base 1 CB "rows" (spO ⟨P, w, K⟩ (T_pr CB fun b => b.rows.map eRow))) : C8.Cal P w K mg base 3 "orders_of" (spP ⟨P, w, K⟩ (T_orders CB)) [] := by
  have S : FnScope ["book", "found", "command", "name", "row"] ["book"] (C8.fnScope (top 34)) := C8.fnScope_by (by decide +kernel)
  refine calP (T_orders CB) F b S (fun ds d ⟨_, _, h, _⟩ => by rw [h]; rfl) (by decide) fun cdv A outer s H E hr ds d h => ?_
  obtain ⟨bk, hb, rfl, rfl⟩ := h
  have e2 := hb.cf
  have e4 := hb.rf
  refine sd_cons (ss_asgO 1 (eo_cat (EO.ee (eo_lst (ea_cons ee_non ea_nil))) (EO.ee (eo_lc0 (own := [("command", 2)]) eCmd (fun c => .tup [.str "do", .str c.nm]) (fun c => [(2, eCmd c)]) S.nd (blkOk_by (N := ["book", "found", "command", "name", "row"]) (sc := C8.fnScope (top 34)) (by decide +kernel)) (ei_lst (EO.ee (eo_prop p4 hr (by decide) (ee_v 0 (dBook CB bk)) ⟨bk, rfl, rfl⟩))) (by omega) (fun d hd s H C cl fp => gd_name 2 S.nd) (by simp) (fun d hd s H C cl fp => ee_tup (ea_cons ee_str (ea_cons (ee_ixT (i := 0) (ee_v 2 (eCmd d)) ee_int rfl) ea_nil))))) ?_) (fun q => ?_) S.nd)
  · simp only [List.length_cons, List.length_nil, List.length_map]
    omega
  refine sd_know 1 rfl ?_
  have nmr : ∀ x ∈ bk.rows.map Row.nm, PyData.strOk x = true := fun x hx => by
    obtain ⟨r, hr', rfl⟩ := List.mem_map.mp hx
    exact (hb.rs r hr').1.ok
  refine sd_cons (ss_ret (EO.ee (EO.cast (eo_cat (EO.ee (eo_cat (ee_v 1 (.lst ([.non] ++ bk.cmds.map fun c => .tup [.str "do", .str c.nm]))) (EO.ee (eo_lc0 (own := [("name", 3)]) .str (fun n => .tup [.str "run", .str n]) (fun n => [(3, .str n)]) S.nd (blkOk_by (N := ["book", "found", "command", "name", "row"]) (sc := C8.fnScope (top 34)) (by decide +kernel)) (ei_lst (EO.ee (eo_sortS (xs := bk.rows.map Row.nm) B.sorted hr.units (EO.ee (EO.cast (eo_lc0 (own := [("row", 4)]) eRow (fun r => .str r.nm) (fun c => [(4, eRow c)]) S.nd (blkOk_by (N := ["book", "found", "command", "name", "row"]) (sc := C8.fnScope (top 34)) (by decide +kernel)) (ei_lst (EO.ee (eo_prop p6 hr (by decide) (ee_v 0 (dBook CB bk)) ⟨bk, rfl, rfl⟩))) (by omega) (fun d hd s H C cl fp => gd_name 4 S.nd) (by simp) (fun d hd s H C cl fp => ee_ixT (i := 0) (ee_v 4 (eRow d)) ee_int rfl)) (by rw [List.map_map]; rfl))) nmr))) (by rw [(sortS_perm _).length_eq, List.length_map]; omega) (fun d hd s H C cl fp => gd_name 3 S.nd) (by simp) (fun d hd s H C cl fp => ee_tup (ea_cons ee_str (ea_cons (ee_v 3 (.str d)) ea_nil))))) ?_)) (EO.ee (eo_lst (ea_cons (ee_tup (ea_cons ee_str ea_nil)) ea_nil))) ?_) ?_)) rfl)
  · simp only [List.length_cons, List.length_nil, List.length_map, List.length_append, (sortS_perm _).length_eq]
    omega
  · simp only [List.length_cons, List.length_nil, List.length_map, List.length_append, (sortS_perm _).length_eq]
    omega
  · unfold ordersM
    simp only [List.map_append, List.map_cons, List.map_map, List.map_nil]
    rfl
def T_lots (ds : List D) (d : D) : Prop := ∃ l : List Str, (∀ z ∈ l, IsNm z) ∧ l.Nodup ∧ l.length ≤ 2 ∧ ds = [eStrs l] ∧ d = .lst ((lotsM l).map eLot)
theorem combM_len (l : List Str) (m : Nat) : (combM l m).length ≤ l.length + 1 := by
  unfold combM
  split
  · simp
  · simp
  · simp
  · simp
theorem c_lots {f : Addr} {fd : FuncData} (F : C8.Def K mg "lots_of" (top 35) f fd) (b : Binds K fd ["names"] []) (B : Bt mg) (hC : mg "combinations" = some (.type "itertools.combinations")) : C8.Cal P w K mg base 1 "lots_of" (spP ⟨P, w, K⟩ T_lots) [] := by
  have S : FnScope ["names", "found", "many"] ["names"] (C8.fnScope (top 35)) := C8.fnScope_by (by decide +kernel)
  refine calP T_lots F b S (fun ds d ⟨_, _, _, _, h, _⟩ => by rw [h]; rfl) (by decide) fun cdv A outer s H E hr ds d h => ?_
  obtain ⟨l, hn, hd, hl, rfl, rfl⟩ := h
  have hsl : (sortS l).length = l.length := (sortS_perm l).length_eq
  have bnd : ∀ n, ((List.range n).flatMap fun m => combM (sortS l) m).length ≤ n * 3 := fun n => by
    induction n with
    | zero => simp
    | succ n ih =>
      have := combM_len (sortS l) n
      rw [List.range_succ, List.flatMap_append, List.length_append, List.flatMap_cons, List.flatMap_nil, List.append_nil]
      omega
  refine sd_cons (ss_asgO 1 (eo_lst ea_nil) (fun q => ?_) S.nd)
  refine sd_cons (ss_for (fun i : Nat => .int i) (fun m => [(2, .int m)]) (ei_rngI (n := ((l.length + 1 : Nat) : Int)) B.range ((ee_add (ee_lenL B.len (ee_v 0 (eStrs l))) ee_int).cast (by rw [List.length_map]; rfl)) (by omega) (by omega)) (fun i ss' => ∃ x2, ss' = [.im (eStrs l), .ow q (((List.range i).flatMap fun m => combM (sortS l) m).map eLot), x2]) ⟨_, rfl⟩ ?_ ?_ ?_)
  · rintro i m ss' hm ⟨x2, rfl⟩
    exact gd_name 2 S.nd
  · rintro i m ss' hm ⟨x2, rfl⟩
    have hm2 : i < l.length + 1 ∧ m = i := by
      rw [Int.toNat_natCast] at hm
      obtain ⟨h1, h2⟩ := List.getElem?_eq_some_iff.mp hm
      rw [List.length_range] at h1
      rw [List.getElem_range] at h2
      exact ⟨h1, h2.symm⟩
    obtain ⟨hi, rfl⟩ := hm2
    refine sd_cons (ss_ext 1 rfl (EO.ee (eo_sortComb (m := m) B.sorted hC hr.units (EO.ee (eo_sortS B.sorted hr.units (ee_v 0 (eStrs l)) fun x hx => (hn x hx).ok)) (ee_v 2 (.int m)) (fun x hx => (hn x ((sortS_perm l).mem_iff.mp hx)).ok) (sortS_asc hd) (by omega) (by omega))) ?_ (sd_nil ⟨.im (.int m), ?_⟩))
    · have h1 := bnd m
      have h2 := combM_len (sortS l) m
      simp only [List.length_map]
      omega
    · rw [List.range_succ, List.flatMap_append, List.map_append, List.flatMap_cons, List.flatMap_nil, List.append_nil]
      rfl
  · rintro ss' ⟨x2, rfl⟩
    refine sd_know 1 rfl (sd_cons (ss_ret (ee_v 1 (.lst (((List.range (List.range ((l.length + 1 : Nat) : Int).toNat).length).flatMap fun m => combM (sortS l) m).map eLot))) ?_))
    rw [List.length_range, Int.toNat_natCast]
    rfl
def T_inputs (CB : Addr) (ds : List D) (d : D) : Prop := ∃ b, BOk b ∧ b.alms.length ≤ 2 ∧ ds = [dBook CB b] ∧ d = .lst ((inputsM b).map eInp)
theorem c_inputs {f : Addr} {fd : FuncData} (F : C8.Def K mg "inputs_of" (top 36) f fd) (b : Binds K fd ["book"] []) (p5 : Prp P w K mg base 1 CB "alarms" (spO ⟨P, w, K⟩ (T_pr CB fun b => b.alms.map eAlm))) (c1 : C8.Cal P w K mg base 3 "orders_of" (spP ⟨P, w, K⟩ (T_orders CB)) []) (c2 : C8.Cal P w K mg base 1 "lots_of" (spP ⟨P, w, K⟩ T_lots) []) : C8.Cal P w K mg base 4 "inputs_of" (spP ⟨P, w, K⟩ (T_inputs CB)) [] := by
  have S : FnScope ["book", "orders", "alarms", "order", "alarm"] ["book"] (C8.fnScope (top 36)) := C8.fnScope_by (by decide +kernel)
  refine calP (T_inputs CB) F b S (fun ds d ⟨_, _, _, h, _⟩ => by rw [h]; rfl) (by decide) fun cdv A outer s H E hr ds d h => ?_
  obtain ⟨bk, hb, ha, rfl, rfl⟩ := h
  have e2 := hb.cf
  have e4 := hb.rf
  have nma : ∀ z ∈ bk.alms.map Alm.nm, IsNm z := fun x hx => by
    obtain ⟨r, hr', rfl⟩ := List.mem_map.mp hx
    exact (hb.al r hr').1
  have lo : (ordersM bk).length ≤ 300 := by
    unfold ordersM
    simp only [List.length_cons, List.length_nil, List.length_map, List.length_append, (sortS_perm _).length_eq]
    omega
  have ll : (lotsM (bk.alms.map Alm.nm)).length ≤ 9 := by
    have bnd : ∀ n, ((List.range n).flatMap fun m => combM (sortS (bk.alms.map Alm.nm)) m).length ≤ n * 3 := fun n => by
      induction n with
      | zero => simp
      | succ n ih =>
        have := combM_len (sortS (bk.alms.map Alm.nm)) n
        have hsl : (sortS (bk.alms.map Alm.nm)).length ≤ 2 := by rw [(sortS_perm _).length_eq, List.length_map]; exact ha
        rw [List.range_succ, List.flatMap_append, List.length_append, List.flatMap_cons, List.flatMap_nil, List.append_nil]
        omega
    have := bnd ((bk.alms.map Alm.nm).length + 1)
    rw [List.length_map] at this
    unfold lotsM
    rw [List.length_map]
    omega
  have lf : ((lotsM (bk.alms.map Alm.nm)).flatMap fun _ => ordersM bk).length ≤ 100000 := by
    have : ∀ l : List (List Str), (l.flatMap fun _ => ordersM bk).length = l.length * (ordersM bk).length := fun l => by
      induction l with
      | nil => simp
      | cons x r ih => rw [List.flatMap_cons, List.length_append, ih, List.length_cons]; rw [Nat.succ_mul]; omega
    rw [this]
    exact Nat.le_trans (Nat.mul_le_mul ll lo) (by decide)
  refine sd_cons (ss_asg 1 (ee_call c1 hr (by decide) (ea_cons (ee_v 0 (dBook CB bk)) ea_nil) ⟨bk, hb, rfl, rfl⟩) ?_ S.nd)
  refine sd_cons (ss_ret (EE.cast (EO.ee (eo_lc2 (vs1 := [3]) (own := [("alarms", 2), ("order", 3)]) eLot (fun _ => ordersM bk) eOrd (fun l o => eInp ⟨l, o⟩) (fun l => [(2, eLot l)]) (fun _ o => [(3, eOrd o)]) S.nd (blkOk_by (N := ["book", "orders", "alarms", "order", "alarm"]) (sc := C8.fnScope (top 36)) (by decide +kernel)) (by decide)
    (ei_lst (ee_call c2 hr (by decide) (ea_cons (EO.ee (EO.cast (eo_lc0 (own := [("alarm", 4)]) eAlm (fun a => .str a.nm) (fun a => [(4, eAlm a)]) S.nd (blkOk_by (N := ["book", "orders", "alarms", "order", "alarm"]) (sc := C8.fnScope (top 36)) (by decide +kernel)) (ei_lst (EO.ee (eo_prop p5 hr (by decide) (ee_v 0 (dBook CB bk)) ⟨bk, rfl, rfl⟩))) (by omega) (fun d hd s H C cl fp => gd_name 4 S.nd) (by simp) (fun d hd s H C cl fp => ee_ixT (i := 0) (ee_v 4 (eAlm d)) ee_int rfl)) (show _ = (bk.alms.map Alm.nm).map D.str by rw [List.map_map]; rfl))) ea_nil) ⟨bk.alms.map Alm.nm, nma, hb.an, by rw [List.length_map]; exact ha, rfl, rfl⟩)) lf (fun d hd s H C cl fp => gd_name 2 S.nd) (by simp) (fun d hd s H C cl fp => ei_lst (ee_v 1 (.lst ((ordersM bk).map eOrd)))) (fun d hd d' hd' s H C cl fp => gd_name 3 S.nd) (by simp) (fun d hd d' hd' s H C cl fp => ee_tup (ea_cons (ee_v 2 (eLot d)) (ea_cons (ee_v 3 (eOrd d')) ea_nil))))) ?_) rfl)
  unfold inputsM
  rw [List.map_flatMap]
  simp only [List.map_map]
  rfl
def T_is_barred (CB : Addr) (ds : List D) (d : D) : Prop := ∃ b, ∃ l : List Str, BOk b ∧ ds = [dBook CB b, eLot l] ∧ d = .bl (isBarredM b l)
theorem any_id {α : Type} (l : List α) (f : α → Bool) : (l.map f).any id = l.any f := by
  induction l with
  | nil => rfl
  | cons x r ih => rw [List.map_cons, List.any_cons, List.any_cons, ih]; rfl
theorem all_id {α : Type} (l : List α) (f : α → Bool) : (l.map f).all id = l.all f := by
  induction l with
  | nil => rfl
  | cons x r ih => rw [List.map_cons, List.all_cons, List.all_cons, ih]; rfl
theorem map_bl {α : Type} (l : List α) (f : α → Bool) : (l.map fun x => D.bl (f x)) = (l.map f).map D.bl := by rw [List.map_map]; rfl
theorem c_is_barred {f : Addr} {fd : FuncData} (F : C8.Def K mg "is_barred" (top 37) f fd) (b : Binds K fd ["book", "lot"] []) (B : Bt mg) (p3 : Prp P w K mg base 1 CB "barred" (spO ⟨P, w, K⟩ (T_pr CB fun b => b.barred.map eLot))) : C8.Cal P w K mg base 3 "is_barred" (spP ⟨P, w, K⟩ (T_is_barred CB)) [] := by
  have S : FnScope ["book", "lot", "barred", "hold"] ["book", "lot"] (C8.fnScope (top 37)) := C8.fnScope_by (by decide +kernel)
  refine calP (T_is_barred CB) F b S (fun ds d ⟨_, _, _, h, _⟩ => by rw [h]; rfl) (by decide) fun cdv A outer s H E hr ds d h => ?_
  obtain ⟨bk, l, hb, rfl, rfl⟩ := h
  have e1 := hb.bf
  refine sd_cons (ss_ret (EE.cast (ee_any B.any (EO.ee (EO.cast (eo_lc0 (own := [("barred", 2)]) eLot (fun k => .bl (k.all fun h => decide (h ∈ l))) (fun k => [(2, eLot k)]) S.nd (blkOk_by (N := ["book", "lot", "barred", "hold"]) (sc := C8.fnScope (top 37)) (by decide +kernel)) (ei_lst (EO.ee (eo_prop p3 hr (by decide) (ee_v 0 (dBook CB bk)) ⟨bk, rfl, rfl⟩))) (by omega) (fun d hd s H C cl fp => gd_name 2 S.nd) (by simp) (fun d hd s H C cl fp => ?_)) (map_bl _ _)))) (by rw [any_id]; rfl)) rfl)
  have hd' := (hb.bt d hd).few
  exact EE.cast (ee_all B.all (EO.ee (EO.cast (eo_lc0 (own := [("hold", 3)]) .str (fun h => .bl (decide (h ∈ l))) (fun h => [(3, .str h)]) S.nd (blkOk_by (by kernel_rfl!)) (ei_tup (ee_v 2 (eLot d))) (by omega) (fun d hd s H C cl fp => gd_name 3 S.nd) (by simp) (fun h hh s H C cl fp => ee_c2 cmp_inT (ee_v 3 (.str h)) (ee_v 1 (eLot l)))) (map_bl _ _)))) (by rw [all_id])
def T_has_barred (CB : Addr) (ds : List D) (d : D) : Prop := ∃ b, ∃ ms : List (List Str), BOk b ∧ ms.length ≤ 10000 ∧ ds = [dBook CB b, .lst (ms.map eLot)] ∧ d = .bl (hasBarredM b ms)
theorem c_has_barred {f : Addr} {fd : FuncData} (F : C8.Def K mg "has_barred" (top 38) f fd) (b : Binds K fd ["book", "moments"] []) (B : Bt mg) (c1 : C8.Cal P w K mg base 3 "is_barred" (spP ⟨P, w, K⟩ (T_is_barred CB)) []) : C8.Cal P w K mg base 4 "has_barred" (spP ⟨P, w, K⟩ (T_has_barred CB)) [] := by
  have S : FnScope ["book", "moments", "moment"] ["book", "moments"] (C8.fnScope (top 38)) := C8.fnScope_by (by decide +kernel)
  refine calP (T_has_barred CB) F b S (fun ds d ⟨_, _, _, _, h, _⟩ => by rw [h]; rfl) (by decide) fun cdv A outer s H E hr ds d h => ?_
  obtain ⟨bk, ms, hb, hl, rfl, rfl⟩ := h
  exact sd_cons (ss_ret (EE.cast (ee_any B.any (EO.ee (EO.cast (eo_lc0 (own := [("moment", 2)]) eLot (fun k => .bl (isBarredM bk k)) (fun k => [(2, eLot k)]) S.nd (blkOk_by (N := ["book", "moments", "moment"]) (sc := C8.fnScope (top 38)) (by decide +kernel)) (ei_lst (ee_v 1 (.lst (ms.map eLot)))) (by omega) (fun d hd s H C cl fp => gd_name 2 S.nd) (by simp) (fun d hd s H C cl fp => ee_call c1 hr (by decide) (ea_cons (ee_v 0 (dBook CB bk)) (ea_cons (ee_v 2 (eLot d)) ea_nil)) ⟨bk, d, hb, rfl, rfl⟩)) (map_bl _ _)))) (by rw [any_id]; rfl)) rfl)
end
end Fw
namespace Fw
open PySem PySem.Spec PyProof.Rows L2
section
variable {P : Program} {w : World} {K : PySem.W.Frag} {mg : Str → Option Value} {base : Heap} {CB CG CS CT : Addr}
def T_is_order (CB : Addr) (ds : List D) (d : D) : Prop := ∃ b, ∃ o : Ord, BOk b ∧ OrdOk b (some o) ∧ ds = [dBook CB b, eOrd (some o)] ∧ d = .bl true
theorem ordD_ok {b : Book} (hb : BOk b) {o : Ord} (h : OrdOk b (some o)) : D.ok 1 (eOrd (some o)) = true := by
  cases o with
  | stop => decide +kernel
  | go n =>
    obtain ⟨c, hc, rfl⟩ := List.mem_map.mp (show n ∈ b.cmds.map Cmd.nm from h)
    have := (hb.ct c hc).1.ok
    have e : PyData.strOk "do" = true := by decide +kernel
    simp [eOrd, D.ok, D.oks, this, e]
  | run n =>
    obtain ⟨c, hc, rfl⟩ := List.mem_map.mp (show n ∈ b.rows.map Row.nm from h)
    have := (hb.rs c hc).1.ok
    have e : PyData.strOk "run" = true := by decide +kernel
    simp [eOrd, D.ok, D.oks, this, e]
theorem c_is_order {f : Addr} {fd : FuncData} (F : C8.Def K mg "is_order" (top 23) f fd) (b : Binds K fd ["book", "order"] []) (B : Bt mg) (cO : C8.Cal P w K mg base 1 "names_of" (spP ⟨P, w, K⟩ T_names_of) []) (p4 : Prp P w K mg base 1 CB "commands" (spO ⟨P, w, K⟩ (T_pr CB fun b => b.cmds.map eCmd))) (p6 : Prp P w K mg base 1 CB "rows" (spO ⟨P, w, K⟩ (T_pr CB fun b => b.rows.map eRow))) : C8.Cal P w K mg base 3 "is_order" (spP ⟨P, w, K⟩ (T_is_order CB)) [] := by
  have S : FnScope ["book", "order", "known"] ["book", "order"] (C8.fnScope (top 23)) := C8.fnScope_by (by decide +kernel)
  refine calP (T_is_order CB) F b S (fun ds d ⟨_, _, _, _, h, _⟩ => by rw [h]; rfl) (by decide) fun cdv A outer s H E hr ds d h => ?_
  obtain ⟨bk, o, hb, ho, rfl, rfl⟩ := h
  have e2 := hb.cf
  have e4 := hb.rf
  have ok1 := ordD_ok hb ho
  have fin : ∀ (k n : Str) (l : List Str), dkD (.inr k) [.inr "do", .inr "run"] [eStrs (bk.cmds.map Cmd.nm), eStrs (bk.rows.map Row.nm)] = some (eStrs l) → n ∈ l → o ≠ .stop → eOrd (some o) = .tup [.str k, .str n] → SD (cxOf C8.CX0 P w K mg base ["book", "order", "known"] "is_order" (C8.fnScope (top 23)) f cdv A outer s H E).nox (startS 3 [dBook CB bk, eOrd (some o)]) (C8.fnBody (top 23)) { nx := fun _ => D.bl true = .non, rt := fun t _ => t = .im (.bl true) } := fun k n l hk hn hs he => by
    refine sd_cons (ss_if (x := false) (et_c2 (cmp_eqD (n := 1) (m := 1) (k := false) hr.units ok1 (d' := .tup [.str "stop"]) (by decide +kernel) (by decide) (by decide) (by
      refine ⟨fun h => (by cases h), fun h => ?_⟩
      cases o with
      | stop => exact absurd rfl hs
      | go n => simp [eOrd] at h
      | run n => simp [eOrd] at h)) (ee_v 1 (eOrd (some o))) (ee_tup (ea_cons ee_str ea_nil))) (fun h => nomatch h) fun _ => sd_nil ?_)
    refine sd_cons (ss_if (x := false) (ET.cast (et_c2 (cmp_neI (m := 2) (n := 2)) (ee_lenT (ds := [.str k, .str n]) B.len (EE.cast (ee_v 1 (eOrd (some o))) he)) ee_int) (by decide)) (fun h => nomatch h) fun _ => sd_nil ?_)
    refine sd_cons (ss_asg 2 (eo_disp (kds := [(.inr "do", eStrs (bk.cmds.map Cmd.nm)), (.inr "run", eStrs (bk.rows.map Row.nm))]) (eps_cons ee_str (ee_call cO hr (by decide) (ea_cons (EO.ee (eo_prop p4 hr (by decide) (ee_v 0 (dBook CB bk)) ⟨bk, rfl, rfl⟩)) ea_nil) ⟨Cmd, bk.cmds, eCmd, Cmd.nm, fun x _ => ⟨_, rfl⟩, by omega, rfl, rfl⟩) (eps_cons ee_str (ee_call cO hr (by decide) (ea_cons (EO.ee (eo_prop p6 hr (by decide) (ee_v 0 (dBook CB bk)) ⟨bk, rfl, rfl⟩)) ea_nil) ⟨Row, bk.rows, eRow, Row.nm, fun x _ => ⟨_, rfl⟩, by omega, rfl, rfl⟩) eps_nil)) (by show ([.inr "do", .inr "run"] : List Key).Nodup; decide)) ?_ S.nd)
    refine sd_cons (ss_ret (EE.cast (ee_c2 (cmp_inL (x := n) (ys := l)) (ee_ixT (i := 1) (EE.cast (ee_v 1 (eOrd (some o))) he) ee_int rfl) (ee_dget2 (k := .inr k) (d := eStrs l) (d' := .lst []) (Rm.u1 hr) (ee_v 2 (.dk [.inr "do", .inr "run"] [eStrs (bk.cmds.map Cmd.nm), eStrs (bk.rows.map Row.nm)])) (ee_ixT (i := 0) (EE.cast (ee_v 1 (eOrd (some o))) he) ee_int rfl) (EO.ee (eo_lst ea_nil)) (by rw [hk]; rfl))) ?_) rfl)
    exact congrArg D.bl (decide_eq_true hn)
  cases o with
  | stop =>
    refine sd_cons (ss_if (x := true) (et_c2 (cmp_eqD (n := 1) (m := 1) (k := true) hr.units ok1 (d' := .tup [.str "stop"]) (by decide +kernel) (by decide) (by decide) (by simp [eOrd])) (ee_v 1 (eOrd (some .stop))) (ee_tup (ea_cons ee_str ea_nil))) (fun _ => sd_cons (ss_ret ee_bl rfl)) fun h => nomatch h)
  | go n => exact fin "do" n _ rfl ho (by simp) rfl
  | run n => exact fin "run" n _ rfl ho (by simp) rfl
def T_is_input (CB : Addr) (ds : List D) (d : D) : Prop := ∃ b, ∃ i : Inp, BOk b ∧ InpOk b i ∧ ds = [dBook CB b, eInp i] ∧ d = .bl true
theorem c_is_input {f : Addr} {fd : FuncData} (F : C8.Def K mg "is_input" (top 24) f fd) (b : Binds K fd ["book", "told"] []) (B : Bt mg) (cO : C8.Cal P w K mg base 1 "names_of" (spP ⟨P, w, K⟩ T_names_of) []) (p5 : Prp P w K mg base 1 CB "alarms" (spO ⟨P, w, K⟩ (T_pr CB fun b => b.alms.map eAlm))) (cL : C8.Cal P w K mg base 3 "is_lot_of" (spP ⟨P, w, K⟩ T_is_lot_of) []) (c1 : C8.Cal P w K mg base 3 "is_order" (spP ⟨P, w, K⟩ (T_is_order CB)) []) : C8.Cal P w K mg base 4 "is_input" (spP ⟨P, w, K⟩ (T_is_input CB)) [] := by
  have S : FnScope ["book", "told"] ["book", "told"] (C8.fnScope (top 24)) := C8.fnScope_by (by decide +kernel)
  refine calP (T_is_input CB) F b S (fun ds d ⟨_, _, _, _, h, _⟩ => by rw [h]; rfl) (by decide) fun cdv A outer s H E hr ds d h => ?_
  obtain ⟨bk, i, hb, hi, rfl, rfl⟩ := h
  have e3 := hb.af
  refine sd_cons (ss_if (x := false) (et_w (EW.cast (ew_or (x := false) (y := false) (ET.cast (et_c2 (cmp_neI (m := 2) (n := 2)) (ee_lenT (ds := [eLot i.alms, eOrd i.ord]) B.len (ee_v 1 (eInp i))) ee_int) (by decide)) fun _ => ew_or1 (et_not (x := true) (et_val (ee_call cL hr (by decide) (ea_cons (ee_ixT (i := 0) (d := eLot i.alms) (ee_v 1 (eInp i)) ee_int rfl) (ea_cons (ee_call cO hr (by decide) (ea_cons (EO.ee (eo_prop p5 hr (by decide) (ee_v 0 (dBook CB bk)) ⟨bk, rfl, rfl⟩)) ea_nil) ⟨Alm, bk.alms, eAlm, Alm.nm, fun x _ => ⟨_, rfl⟩, by omega, rfl, rfl⟩) ea_nil)) ⟨i.alms, _, hi.al, rfl, rfl⟩)))) rfl)) (fun h => nomatch h) fun _ => sd_nil ?_)
  have ho := hi.ord
  cases hio : i.ord with
  | none => exact sd_cons (ss_ret (EE.cast (ee_or (y := true) (ee_c2 (cmp_isN (d := .non)) (ee_ixT (i := 1) (ee_v 1 (eInp i)) ee_int (by rw [hio]; rfl)) ee_non) fun h => nomatch h) rfl) rfl)
  | some o =>
    rw [hio] at ho
    exact sd_cons (ss_ret (EE.cast (ee_or (x := false) (EE.cast (ee_c2 (cmp_isN (d := eOrd (some o))) (ee_ixT (i := 1) (ee_v 1 (eInp i)) ee_int (by rw [hio]; rfl)) ee_non) (by cases o <;> rfl)) fun _ => ee_one' (ee_call c1 hr (by decide) (ea_cons (ee_v 0 (dBook CB bk)) (ea_cons (ee_ixT (i := 1) (ee_v 1 (eInp i)) ee_int (by rw [hio]; rfl)) ea_nil)) ⟨bk, o, hb, ho, rfl, rfl⟩)) rfl) rfl)
def T_check (CB : Addr) (ds : List D) (d : D) : Prop := ∃ b, ∃ is : List Inp, BOk b ∧ (∀ i ∈ is, InpOk b i) ∧ ds = [dBook CB b, .lst (is.map eInp)] ∧ d = .non
theorem c_check {f : Addr} {fd : FuncData} (F : C8.Def K mg "check_inputs" (top 25) f fd) (b : Binds K fd ["book", "inputs"] []) (c1 : C8.Cal P w K mg base 4 "is_input" (spP ⟨P, w, K⟩ (T_is_input CB)) []) : C8.Cal P w K mg base 5 "check_inputs" (spP ⟨P, w, K⟩ (T_check CB)) [] := by
  have S : FnScope ["book", "inputs", "told"] ["book", "inputs"] (C8.fnScope (top 25)) := C8.fnScope_by (by decide +kernel)
  refine calP (T_check CB) F b S (fun ds d ⟨_, _, _, _, h, _⟩ => by rw [h]; rfl) (by decide) fun cdv A outer s H E hr ds d h => ?_
  obtain ⟨bk, is, hb, hi, rfl, rfl⟩ := h
  refine sd_cons (ss_for eInp (fun i => [(2, eInp i)]) (ei_lst (ee_v 1 (.lst (is.map eInp)))) (fun i ss' => ∃ x2, ss' = [.im (dBook CB bk), .im (.lst (is.map eInp)), x2]) ⟨_, rfl⟩ ?_ ?_ ?_)
  · rintro i d ss' hd ⟨x2, rfl⟩
    exact gd_name 2 S.nd
  · rintro i d ss' hd ⟨x2, rfl⟩
    exact sd_cons (ss_if (x := false) (et_not (x := true) (et_val (ee_call c1 hr (by decide) (ea_cons (ee_v 0 (dBook CB bk)) (ea_cons (ee_v 2 (eInp d)) ea_nil)) ⟨bk, d, hb, hi d (List.mem_of_getElem? hd), rfl, rfl⟩))) (fun h => nomatch h) fun _ => sd_nil (sd_nil ⟨.im (eInp d), rfl⟩))
  · rintro ss' ⟨x2, rfl⟩
    exact sd_nil rfl
theorem atI_last (l : List D) (x : D) : atI (l ++ [x]) (-1) = some x := by
  unfold atI ixN
  simp only [List.length_append, List.length_singleton]
  rw [if_neg (by omega)]
  have e : ((-1 : Int) + ((l.length + 1 : Nat) : Int)).toNat = l.length := by omega
  split
  · rw [Option.bind_some, e, List.getElem?_append_right (Nat.le_refl _), Nat.sub_self]
    rfl
  · omega
/-- the steps of a history -/
def runM (b : Book) : Stg → List Inp → List TSt
  | _, [] => []
  | s, i :: r => tickT b s i :: runM b (tickM b s i) r
theorem runM_len (b : Book) : ∀ (is : List Inp) (s : Stg), (runM b s is).length = is.length
  | [], _ => rfl
  | i :: r, s => by rw [runM, List.length_cons, runM_len b r, List.length_cons]
def endM (b : Book) : Stg → List Inp → Stg
  | s, [] => s
  | s, i :: r => endM b (tickM b s i) r
theorem runM_snoc (b : Book) : ∀ (is : List Inp) (s : Stg) (i : Inp), runM b s (is ++ [i]) = runM b s is ++ [tickT b (endM b s is) i]
  | [], _, _ => rfl
  | j :: r, s, i => by rw [List.cons_append, runM, runM_snoc b r]; rfl
theorem endM_snoc (b : Book) : ∀ (is : List Inp) (s : Stg) (i : Inp), endM b s (is ++ [i]) = tickM b (endM b s is) i
  | [], _, _ => rfl
  | j :: r, s, i => by rw [List.cons_append, endM, endM_snoc b r]; rfl
theorem endM_ok {b : Book} (hb : BOk b) : ∀ (is : List Inp) {s : Stg}, SOk b s → SOk b (endM b s is)
  | [], _, h => h
  | i :: r, _, h => endM_ok hb r (tickM_ok hb h i)
theorem firstM_ok {b : Book} (hb : BOk b) : SOk b (firstM b) := by
  unfold firstM
  cases e : b.modes with
  | nil => exact absurd e hb.m0
  | cons m r =>
    have hm := (hb.mt m (by rw [e]; exact List.mem_cons_self)).2.von
    have es : sortS m.von = m.von := by
      refine sorted_uniq (sortS_perm _) (sortS_sorted _) (hm.asc.imp fun {a b} q => ?_)
      unfold sle
      simp only [Bool.not_eq_true', decide_eq_false_iff_not]
      exact fun z => slt_irrefl _ (slt_trans q z)
    refine ⟨by rw [e]; exact List.mem_map_of_mem List.mem_cons_self, ?_, fun _ => ⟨rfl, rfl⟩, fun _ h => by cases h⟩
    show LotOf (sortS m.von) b.holds
    rw [es]
    exact hm
def T_run (CB CS : Addr) (ds : List D) (d : D) : Prop := ∃ b, ∃ is : List Inp, BOk b ∧ (∀ i ∈ is, InpOk b i) ∧ is.length ≤ 10000 ∧ ds = [dBook CB b, .lst (is.map eInp)] ∧ d = .lst ((runM b (firstM b) is).map (dStep CS))
theorem c_run {f : Addr} {fd : FuncData} (F : C8.Def K mg "run_of" (top 33) f fd) (b : Binds K fd ["book", "inputs"] []) (oS : Own K CS stepNs) (c1 : C8.Cal P w K mg base 5 "check_inputs" (spP ⟨P, w, K⟩ (T_check CB)) []) (cG : C8.Mak P w K mg base 3 "Gears" CG (spI ⟨P, w, K⟩ CG (T_Gears CB)) []) (cF : C8.Cal P w K mg base 3 "first_standing" (spP ⟨P, w, K⟩ (T_first CB)) []) (cT : C8.Cal P w K mg base 5 "tick_by" (spP ⟨P, w, K⟩ (T_tick CS CG)) []) : C8.Cal P w K mg base 6 "run_of" (spP ⟨P, w, K⟩ (T_run CB CS)) [] := by
  have S : FnScope ["book", "inputs", "gears", "standing", "found", "alarms", "order"] ["book", "inputs"] (C8.fnScope (top 33)) := C8.fnScope_by (by decide +kernel)
  refine calP (T_run CB CS) F b S (fun ds d ⟨_, _, _, _, _, h, _⟩ => by rw [h]; rfl) (by decide) fun cdv A outer s H E hr ds d h => ?_
  obtain ⟨bk, is, hb, hi, hl, rfl, rfl⟩ := h
  have hF := firstM_ok hb
  refine sd_cons (ss_expr (ee_call c1 hr (by decide) (ea_cons (ee_v 0 (dBook CB bk)) (ea_cons (ee_v 1 (.lst (is.map eInp))) ea_nil)) ⟨bk, is, hb, hi, rfl, rfl⟩) ?_)
  refine sd_cons (ss_asg 2 (d := dGears CG bk) (ee_make cG hr (by decide) (ea_cons (ee_v 0 (dBook CB bk)) ea_nil) ⟨bk, hb, rfl, rfl⟩ (fun fs h => by rw [h]; rfl)) ?_ S.nd)
  refine sd_cons (ss_asg 3 (ee_call cF hr (by decide) (ea_cons (ee_v 0 (dBook CB bk)) ea_nil) ⟨bk, hb, rfl, rfl⟩) ?_ S.nd)
  refine sd_cons (ss_asgO 4 (eo_lst ea_nil) (fun q => ?_) S.nd)
  refine sd_cons (ss_for eInp (fun i => [(5, eLot i.alms), (6, eOrd i.ord)]) (ei_lst (ee_v 1 (.lst (is.map eInp)))) (fun i ss' => ∃ x5 x6, ss' = [.im (dBook CB bk), .im (.lst (is.map eInp)), .im (dGears CG bk), .im (eStg (endM bk (firstM bk) (is.take i))), .ow q ((runM bk (firstM bk) (is.take i)).map (dStep CS)), x5, x6]) ⟨_, _, rfl⟩ ?_ ?_ ?_)
  · rintro i d ss' hd ⟨x5, x6, rfl⟩
    exact gd_tup (gds_cons (gd_name 5 S.nd) (gds_cons (gd_name 6 S.nd) gds_nil))
  · rintro i d ss' hd ⟨x5, x6, rfl⟩
    have hok := endM_ok hb (is.take i) hF
    have hio := hi d (List.mem_of_getElem? hd)
    have hlen : (runM bk (firstM bk) (is.take i)).length ≤ 10000 := by
      rw [runM_len, List.length_take]
      omega
    refine sd_cons (ss_app 4 rfl (ee_call cT hr (by decide) (ea_cons (ee_v 2 (dGears CG bk)) (ea_cons (ee_v 3 (eStg (endM bk (firstM bk) (is.take i)))) (ea_cons (ee_v 5 (eLot d.alms)) (ea_cons (ee_v 6 (eOrd d.ord)) ea_nil)))) ⟨bk, _, d, hb, hok, hio.ord, rfl, rfl⟩) (by rw [List.length_map]; omega) ?_)
    refine sd_cons (ss_asg 3 (ee_fld (ee_ixO 4 (k := -1) (d := dStep CS (tickT bk (endM bk (firstM bk) (is.take i)) d)) rfl (ee_neg ee_int) ?_) oS.cl (oS.na "standing" (by decide)) rfl) (sd_nil ⟨.im (eLot d.alms), .im (eOrd d.ord), ?_⟩) S.nd)
    · exact atI_last _ _
    · rw [take_snoc hd, endM_snoc, runM_snoc, List.map_append]
      rfl
  · rintro ss' ⟨x5, x6, rfl⟩
    rw [List.take_length]
    exact sd_know 4 rfl (sd_cons (ss_ret (ee_v 4 (.lst ((runM bk (firstM bk) is).map (dStep CS)))) rfl))
end
end Fw
namespace Fw
open PySem PySem.Spec PyProof.Rows L2
/-! ### the search, in plain Lean -/
abbrev Par := Option (Stg × Inp)
abbrev BS := List Stg × List Par
def bStep (b : Book) (cur : Stg) (st : BS) (i : Inp) : BS := if tickM b cur i ∈ st.1 then st else (st.1 ++ [tickM b cur i], st.2 ++ [some (cur, i)])
def bIter (b : Book) : Nat → BS
  | 0 => ([firstM b], [none])
  | n + 1 => match (bIter b n).1[n]? with
    | none => bIter b n
    | some cur => (inputsM b).foldl (bStep b cur) (bIter b n)
def bfs (b : Book) : BS := bIter b 2000
/-- reached by listed inputs -/
def Reach (b : Book) (s : Stg) : Prop := ∃ is : List Inp, (∀ i ∈ is, i ∈ inputsM b) ∧ s = endM b (firstM b) is
def Few (b : Book) : Prop := ∀ l : List Stg, l.Nodup → (∀ s ∈ l, Reach b s) → l.length < 2000
theorem reach_first (b : Book) : Reach b (firstM b) := ⟨[], fun _ h => (by cases h), rfl⟩
theorem reach_tick {b : Book} {s : Stg} (h : Reach b s) {i : Inp} (hi : i ∈ inputsM b) : Reach b (tickM b s i) := by
  obtain ⟨is, h1, rfl⟩ := h
  refine ⟨is ++ [i], fun j hj => ?_, (endM_snoc b is _ i).symm⟩
  rcases List.mem_append.mp hj with z | z
  · exact h1 j z
  · rw [List.mem_singleton.mp z]
    exact hi
/-- what a stage of the search is -/
structure BOkS (b : Book) (st : BS) : Prop where
  nd : st.1.Nodup
  len : st.2.length = st.1.length
  rc : ∀ s ∈ st.1, Reach b s
  hd : st.1[0]? = some (firstM b) ∧ st.2[0]? = some none
  par : ∀ (j : Nat) s p i, st.1[j]? = some s → st.2[j]? = some (some (p, i)) → s = tickM b p i ∧ i ∈ inputsM b ∧ ∃ k, k < j ∧ st.1[k]? = some p
  root : ∀ (j : Nat), st.2[j]? = some none → j = 0
theorem bOk0 (b : Book) : BOkS b ([firstM b], [none]) where
  nd := by simp
  len := rfl
  rc := fun s h => by rw [List.mem_singleton.mp h]; exact reach_first b
  hd := ⟨rfl, rfl⟩
  par := fun j s p i h1 h2 => by
    cases j with
    | zero => cases h2
    | succ j => cases h2
  root := fun j h => by
    cases j with
    | zero => rfl
    | succ j => cases h
theorem bStep_ok {b : Book} {st : BS} (h : BOkS b st) {n : Nat} {cur : Stg} (hc : st.1[n]? = some cur) {i : Inp} (hi : i ∈ inputsM b) : BOkS b (bStep b cur st i) := by
  unfold bStep
  split
  · exact h
  · rename_i hn
    have hcm : cur ∈ st.1 := List.mem_of_getElem? hc
    have hnl : n < st.1.length := (List.getElem?_eq_some_iff.mp hc).1
    have h0 : 0 < st.1.length := by omega
    refine ⟨?_, by simp [h.len], fun s hs => ?_, ⟨?_, ?_⟩, fun j s p k h1 h2 => ?_, fun j h2 => ?_⟩
    · rw [List.nodup_append]
      exact ⟨h.nd, by simp, fun a ha c hc z => hn (by rw [← List.mem_singleton.mp hc, ← z]; exact ha)⟩
    · rcases List.mem_append.mp hs with z | z
      · exact h.rc s z
      · rw [List.mem_singleton.mp z]
        exact reach_tick (h.rc cur hcm) hi
    · show (st.1 ++ [_])[0]? = _
      rw [List.getElem?_append_left h0]
      exact h.hd.1
    · show (st.2 ++ [_])[0]? = _
      rw [List.getElem?_append_left (by rw [h.len]; exact h0)]
      exact h.hd.2
    · have h1 : (st.1 ++ [tickM b cur i])[j]? = some s := h1
      have h2 : (st.2 ++ [some (cur, i)])[j]? = some (some (p, k)) := h2
      by_cases hj : j < st.1.length
      · rw [List.getElem?_append_left hj] at h1
        rw [List.getElem?_append_left (by rw [h.len]; exact hj)] at h2
        obtain ⟨q1, q2, m, q3, q4⟩ := h.par j s p k h1 h2
        refine ⟨q1, q2, m, q3, ?_⟩
        show (st.1 ++ [_])[m]? = _
        rw [List.getElem?_append_left (by omega)]
        exact q4
      · have hj2 : j = st.1.length := by
          have := (List.getElem?_eq_some_iff.mp h1).1
          rw [List.length_append, List.length_singleton] at this
          omega
        subst hj2
        rw [List.getElem?_append_right (Nat.le_refl _), Nat.sub_self] at h1
        rw [← h.len, List.getElem?_append_right (Nat.le_refl _), Nat.sub_self] at h2
        cases h1
        cases h2
        refine ⟨rfl, hi, n, hnl, ?_⟩
        show (st.1 ++ [_])[n]? = _
        rw [List.getElem?_append_left hnl]
        exact hc
    · have h2 : (st.2 ++ [some (cur, i)])[j]? = some none := h2
      by_cases hj : j < st.2.length
      · rw [List.getElem?_append_left hj] at h2
        exact h.root j h2
      · rw [List.getElem?_append_right (by omega)] at h2
        cases hk : j - st.2.length with
        | zero => rw [hk] at h2; cases h2
        | succ k => rw [hk] at h2; cases h2
theorem bStep_pre (b : Book) (cur : Stg) (st : BS) (i : Inp) : st.1 <+: (bStep b cur st i).1 := by
  unfold bStep
  split
  · exact List.prefix_refl _
  · exact List.prefix_append _ _
theorem fold_pre (b : Book) (cur : Stg) : ∀ (is : List Inp) (st : BS), st.1 <+: (is.foldl (bStep b cur) st).1
  | [], _ => List.prefix_refl _
  | i :: r, st => (bStep_pre b cur st i).trans (fold_pre b cur r _)
theorem pre_get {α : Type} {l m : List α} {n : Nat} {x : α} (h : l <+: m) (e : l[n]? = some x) : m[n]? = some x := by
  obtain ⟨t, rfl⟩ := h
  rw [List.getElem?_append_left (List.getElem?_eq_some_iff.mp e).1]
  exact e
theorem fold_ok {b : Book} {n : Nat} {cur : Stg} : ∀ (is : List Inp) {st : BS}, BOkS b st → st.1[n]? = some cur → (∀ i ∈ is, i ∈ inputsM b) → BOkS b (is.foldl (bStep b cur) st)
  | [], _, h, _, _ => h
  | i :: r, st, h, hc, hi => fold_ok r (bStep_ok h hc (hi i List.mem_cons_self)) (pre_get (bStep_pre b cur st i) hc) fun j hj => hi j (List.mem_cons_of_mem _ hj)
theorem bIter_ok (b : Book) : ∀ n, BOkS b (bIter b n)
  | 0 => bOk0 b
  | n + 1 => by
    unfold bIter
    split
    · exact bIter_ok b n
    · rename_i cur e
      exact fold_ok _ (bIter_ok b n) e fun i h => h
theorem bIter_few {b : Book} (hf : Few b) (n : Nat) : (bIter b n).1.length < 2000 := hf _ (bIter_ok b n).nd (bIter_ok b n).rc
/-- the search has come to its end -/
theorem bIter_end {b : Book} {n : Nat} (h : (bIter b n).1.length ≤ n) : ∀ m, n ≤ m → bIter b m = bIter b n
  | 0, hm => by
    have : n = 0 := by omega
    rw [this]
  | m + 1, hm => by
    by_cases e : n = m + 1
    · rw [e]
    · have ih := bIter_end h m (by omega)
      rw [bIter, ih, List.getElem?_eq_none (by omega)]
/-! ### the way back -/
def lookK {β : Type} (s : Stg) : List Stg → List β → Option β
  | k :: ks, p :: ps => if k = s then some p else lookK s ks ps
  | _, _ => none
theorem lookK_get {β : Type} {s : Stg} : ∀ {ks : List Stg} {ps : List β} {j : Nat} {p : β}, ks.Nodup → ks[j]? = some s → ps[j]? = some p → lookK s ks ps = some p
  | [], _, _, _, _, h, _ => by cases h
  | k :: ks, [], _, _, _, _, h => by cases h
  | k :: ks, p :: ps, 0, q, _, h1, h2 => by
    cases h1
    cases h2
    rw [lookK, if_pos rfl]
  | k :: ks, p :: ps, j + 1, q, nd, h1, h2 => by
    have h1 : ks[j]? = some s := by simpa using h1
    have h2 : ps[j]? = some q := by simpa using h2
    obtain ⟨n1, n2⟩ := List.nodup_cons.mp nd
    rw [lookK, if_neg fun z => n1 (by rw [z]; exact List.mem_of_getElem? h1)]
    exact lookK_get n2 h1 h2
theorem lookK_none {β : Type} {s : Stg} : ∀ {ks : List Stg} {ps : List β}, s ∉ ks → lookK s ks ps = none
  | [], _, _ => rfl
  | k :: ks, [], _ => rfl
  | k :: ks, p :: ps, h => by
    rw [lookK, if_neg fun z => h (by rw [z]; exact List.mem_cons_self)]
    exact lookK_none fun z => h (List.mem_cons_of_mem _ z)
def backM (ks : List Stg) (ps : List Par) : Nat → Stg → List Inp
  | 0, _ => []
  | n + 1, s => match lookK s ks ps with
    | some (some (p, i)) => backM ks ps n p ++ [i]
    | _ => []
def wayM (st : BS) (s : Stg) : List Inp := backM st.1 st.2 st.1.length s
theorem back_fuel {b : Book} {st : BS} (h : BOkS b st) : ∀ (j n : Nat) (s : Stg), st.1[j]? = some s → j < n → backM st.1 st.2 n s = backM st.1 st.2 (j + 1) s
  | j, 0, s, _, hn => by omega
  | j, n + 1, s, hj, hn => by
    have hjl : j < st.2.length := by rw [h.len]; exact (List.getElem?_eq_some_iff.mp hj).1
    have e := lookK_get h.nd hj (List.getElem?_eq_getElem hjl)
    rw [backM, backM, e]
    cases hp : st.2[j] with
    | none => rfl
    | some q =>
      obtain ⟨p, i⟩ := q
      obtain ⟨_, _, k, hk, hkp⟩ := h.par j s p i hj (by rw [List.getElem?_eq_getElem hjl, hp])
      simp only
      rw [back_fuel h k n p hkp (by omega), back_fuel h k j p hkp hk]
termination_by j => j
end Fw
namespace Fw
open PySem PySem.Spec PyProof.Rows L2
/-! ### standings as keys -/
theorem nks_strs (l : List Str) : D.nks (l.map .str) = l.map .text := by rw [D.nks_map, List.map_map]; rfl
theorem nk_stg (s : Stg) : (eStg s).nk = .tup [.text s.mode, .tup (s.lot.map .text), (eOpt s.row).nk, .num s.place, .num s.left, .num s.sil] := by
  show NestedKey.tup [.text s.mode, .tup (D.nks (s.lot.map .str)), (eOpt s.row).nk, .num s.place, .num s.left, .num s.sil] = _
  rw [nks_strs]
theorem map_text_inj : ∀ {l k : List Str}, l.map NestedKey.text = k.map NestedKey.text → l = k
  | [], [], _ => rfl
  | [], _ :: _, h => by cases h
  | _ :: _, [], h => by cases h
  | x :: l, y :: k, h => by
    rw [List.map_cons, List.map_cons, List.cons.injEq] at h
    rw [NestedKey.text.inj h.1, map_text_inj h.2]
theorem nk_opt_inj {a b : Option Str} (h : (eOpt a).nk = (eOpt b).nk) : a = b := by
  cases a with
  | none =>
    cases b with
    | none => rfl
    | some y => cases h
  | some x =>
    cases b with
    | none => cases h
    | some y =>
      have h : NestedKey.text x = NestedKey.text y := h
      rw [NestedKey.text.inj h]
theorem nk_stg_inj {s t : Stg} (h : (eStg s).nk = (eStg t).nk) : s = t := by
  rw [nk_stg, nk_stg] at h
  have h := NestedKey.tup.inj h
  simp only [List.cons.injEq, and_true] at h
  obtain ⟨h1, h2, h3, h4, h5, h6⟩ := h
  have k1 : s.mode = t.mode := NestedKey.text.inj h1
  have k2 : s.lot = t.lot := map_text_inj (NestedKey.tup.inj h2)
  have k3 : s.row = t.row := nk_opt_inj h3
  have k4 : (s.place : Int) = t.place := NestedKey.num.inj h4
  have k4 : s.place = t.place := by omega
  have k5 : s.left = t.left := NestedKey.num.inj h5
  have k6 : s.sil = t.sil := NestedKey.num.inj h6
  clear h1 h2 h3 h4 h5 h6
  cases s
  cases t
  exact Stg.mk.injEq .. ▸ ⟨k1, k2, k3, k4, k5, k6⟩
theorem koks_strs (n : Nat) (l : List Str) : D.koks n (l.map .str) = true := by
  induction l with
  | nil => rw [List.map_nil, D.koks]
  | cons x r ih =>
    rw [List.map_cons, D.koks, ih, D.kok]
    rfl
theorem kok_stg (s : Stg) : D.kok 8 (eStg s) = true := by
  have e : D.kok 7 (eLot s.lot) = true := by
    show D.koks 6 (s.lot.map .str) = true
    exact koks_strs 6 s.lot
  have e2 : D.kok 7 (eOpt s.row) = true := by cases s.row <;> rfl
  show D.koks 7 [.str s.mode, eLot s.lot, eOpt s.row, .int s.place, .int s.left, .int s.sil] = true
  simp [D.koks, D.kok, e, e2]
theorem koks_stg (l : List Stg) : D.koks 8 (l.map eStg) = true := by
  induction l with
  | nil => rw [List.map_nil, D.koks]
  | cons x r ih => rw [List.map_cons, D.koks, ih, kok_stg]; rfl
def ePar : Par → D
  | none => .non
  | some (s, i) => .tup [eStg s, eInp i]
theorem dtN_map (s : Stg) : ∀ (ks : List Stg) (ps : List Par), dtN (eStg s).nk (D.nks (ks.map eStg)) (ps.map ePar) = (lookK s ks ps).map ePar
  | [], _ => rfl
  | k :: ks, [] => rfl
  | k :: ks, p :: ps => by
    rw [List.map_cons, List.map_cons, D.nks, dtN, lookK, dtN_map s ks ps]
    by_cases h : k = s
    · rw [if_pos h, if_pos (by rw [h])]
      rfl
    · rw [if_neg h, if_neg fun z => h (nk_stg_inj z)]
theorem lookK_mem {β : Type} {s : Stg} : ∀ {ks : List Stg} {ps : List β}, ps.length = ks.length → s ∈ ks → ∃ p, lookK s ks ps = some p
  | [], _, _, h => by cases h
  | k :: ks, [], hl, _ => by cases hl
  | k :: ks, p :: ps, hl, h => by
    rw [lookK]
    by_cases e : k = s
    · rw [if_pos e]
      exact ⟨p, rfl⟩
    · rw [if_neg e]
      exact lookK_mem (by simpa using hl) ((List.mem_cons.mp h).resolve_left fun z => e z.symm)
section
variable {P : Program} {w : World} {K : PySem.W.Frag} {mg : Str → Option Value} {base : Heap} {CB CG CS CT : Addr}
theorem inputs_ok {b : Book} (hb : BOk b) (ha : b.alms.length ≤ 2) : ∀ i ∈ inputsM b, InpOk b i := by
  intro i hi
  unfold inputsM at hi
  obtain ⟨l, hl, hi⟩ := List.mem_flatMap.mp hi
  obtain ⟨o, ho, rfl⟩ := List.mem_map.mp hi
  have nma : ∀ z ∈ b.alms.map Alm.nm, IsNm z := fun x hx => by
    obtain ⟨r, hr', rfl⟩ := List.mem_map.mp hx
    exact (hb.al r hr').1
  refine ⟨?_, ?_⟩
  · show LotOf l _
    unfold lotsM at hl
    obtain ⟨m, _, hm⟩ := List.mem_flatMap.mp hl
    have hs : (sortS (b.alms.map Alm.nm)).length ≤ 2 := by rw [(sortS_perm _).length_eq, List.length_map]; exact ha
    have hasc := sortS_asc hb.an
    have hmem : ∀ z ∈ sortS (b.alms.map Alm.nm), z ∈ b.alms.map Alm.nm := fun z hz => (sortS_perm _).mem_iff.mp hz
    generalize sortS (b.alms.map Alm.nm) = q at hm hs hasc hmem
    have key : (∀ z ∈ l, z ∈ q) ∧ Asc l ∧ l.length ≤ 100 := by
      unfold combM at hm
      split at hm
      · rw [List.mem_singleton.mp hm]
        exact ⟨fun _ h => (by cases h), .nil, by decide⟩
      · obtain ⟨a, ha, rfl⟩ := List.mem_map.mp hm
        exact ⟨fun z hz => by rw [List.mem_singleton.mp hz]; exact ha, List.pairwise_singleton _ _, by simp⟩
      · rename_i a c
        rw [List.mem_singleton.mp hm]
        exact ⟨fun _ h => h, hasc, by simp⟩
      · cases hm
    exact ⟨⟨fun z hz => nma z (hmem z (key.1 z hz)), key.2.1, key.2.2⟩, fun z hz => hmem z (key.1 z hz)⟩
  · show OrdOk b o
    unfold ordersM at ho
    simp only [List.cons_append, List.mem_cons, List.mem_append, List.mem_map, List.not_mem_nil, or_false] at ho
    rcases ho with rfl | (⟨c, hc, rfl⟩ | ⟨n, hn, rfl⟩) | rfl
    · trivial
    · exact List.mem_map_of_mem hc
    · exact (sortS_perm _).mem_iff.mp hn
    · trivial
def T_bef (CB : Addr) (ds : List D) (d : D) : Prop := ∃ b, BOk b ∧ b.alms.length ≤ 2 ∧ Few b ∧ ds = [dBook CB b] ∧ d = .dt ((bfs b).1.map eStg) ((bfs b).2.map ePar)
theorem reach_ok {b : Book} (hb : BOk b) {s : Stg} (h : Reach b s) : SOk b s := by
  obtain ⟨is, _, rfl⟩ := h
  exact endM_ok hb is (firstM_ok hb)
theorem c_bef {f : Addr} {fd : FuncData} (F : C8.Def K mg "befores" (top 41) f fd) (b : Binds K fd ["book"] []) (B : Bt mg) (oS : Own K CS stepNs) (hM : ∃ t, mg "MOST_STANDINGS" = some (.int 2000 t)) (cG : C8.Mak P w K mg base 3 "Gears" CG (spI ⟨P, w, K⟩ CG (T_Gears CB)) []) (cI : C8.Cal P w K mg base 4 "inputs_of" (spP ⟨P, w, K⟩ (T_inputs CB)) []) (cF : C8.Cal P w K mg base 3 "first_standing" (spP ⟨P, w, K⟩ (T_first CB)) []) (cT : C8.Cal P w K mg base 5 "tick_by" (spP ⟨P, w, K⟩ (T_tick CS CG)) []) : C8.Cal P w K mg base 6 "befores" (spP ⟨P, w, K⟩ (T_bef CB)) [] := by
  have S : FnScope ["book", "gears", "inputs", "found", "waiting", "at", "told", "behind"] ["book"] (C8.fnScope (top 41)) := C8.fnScope_by (by decide +kernel)
  refine calP (T_bef CB) F b S (fun ds d ⟨_, _, _, _, h, _⟩ => by rw [h]; rfl) (by decide) fun cdv A outer s H E hr ds d h => ?_
  obtain ⟨bk, hb, ha, hf, rfl, rfl⟩ := h
  obtain ⟨tm, hM⟩ := hM
  have hin := inputs_ok hb ha
  refine sd_cons (ss_asg 1 (d := dGears CG bk) (ee_make cG hr (by decide) (ea_cons (ee_v 0 (dBook CB bk)) ea_nil) ⟨bk, hb, rfl, rfl⟩ (fun fs h => by rw [h]; rfl)) ?_ S.nd)
  refine sd_cons (ss_asg 2 (ee_call cI hr (by decide) (ea_cons (ee_v 0 (dBook CB bk)) ea_nil) ⟨bk, hb, ha, rfl, rfl⟩) ?_ S.nd)
  refine sd_cons (ss_dtnew 3 hr.units (ee_call cF hr (by decide) (ea_cons (ee_v 0 (dBook CB bk)) ea_nil) ⟨bk, hb, rfl, rfl⟩) ee_non ⟨_, rfl⟩ (kok_stg _) (fun q => ?_) S.nd)
  refine sd_cons (ss_asgO 4 (eo_lst (ea_cons (ee_call cF hr (by decide) (ea_cons (ee_v 0 (dBook CB bk)) ea_nil) ⟨bk, hb, rfl, rfl⟩) ea_nil)) (fun p => ?_) S.nd)
  refine sd_cons (ss_asg 5 ee_int ?_ S.nd)
  refine sd_cons (ss_while (fun m ss' => ∃ n x6 x7, n ≤ 2000 ∧ m = 2000 - n ∧ ss' = [.im (dBook CB bk), .im (dGears CG bk), .im (.lst ((inputsM bk).map eInp)), .dt q ((bIter bk n).1.map eStg) ((bIter bk n).2.map ePar), .ow p ((bIter bk n).1.map eStg), .im (.int n), x6, x7]) 2000 ⟨0, _, _, Nat.zero_le _, rfl, rfl⟩ ?_)
  rintro m ss' ⟨n, x6, x7, hn, rfl, rfl⟩
  have hfew := bIter_few hf n
  refine ⟨decide (n < (bIter bk n).1.length), ET.cast (et_c2 cmp_lt (ee_v 5 (.int n)) (ee_lenO 4 (q := p) B.len rfl)) (by rw [List.length_map, Bool.eq_iff_iff]; simp), fun hlt => ?_, fun hge => ?_⟩
  · have hlt : n < (bIter bk n).1.length := by simpa using hlt
    obtain ⟨cur, hcur⟩ : ∃ cur, (bIter bk n).1[n]? = some cur := ⟨_, List.getElem?_eq_getElem hlt⟩
    have hst := bIter_ok bk n
    refine sd_cons (ss_for eInp (fun i => [(6, eInp i)]) (ei_lst (ee_v 2 (.lst ((inputsM bk).map eInp)))) (fun i ss' => ∃ x6 x7, ss' = [.im (dBook CB bk), .im (dGears CG bk), .im (.lst ((inputsM bk).map eInp)), .dt q ((((inputsM bk).take i).foldl (bStep bk cur) (bIter bk n)).1.map eStg) ((((inputsM bk).take i).foldl (bStep bk cur) (bIter bk n)).2.map ePar), .ow p ((((inputsM bk).take i).foldl (bStep bk cur) (bIter bk n)).1.map eStg), .im (.int n), x6, x7]) ⟨_, _, rfl⟩ ?_ ?_ ?_)
    · rintro i d ss' hd ⟨x6, x7, rfl⟩
      exact gd_name 6 S.nd
    · rintro i d ss' hd ⟨x6, x7, rfl⟩
      have hdm : d ∈ inputsM bk := List.mem_of_getElem? hd
      have hok := fold_ok ((inputsM bk).take i) hst hcur fun j hj => List.mem_of_mem_take hj
      have hcur' := pre_get (fold_pre bk cur ((inputsM bk).take i) (bIter bk n)) hcur
      rw [take_snoc hd, List.foldl_append]
      generalize ((inputsM bk).take i).foldl (bStep bk cur) (bIter bk n) = st at hok hcur'
      have hst2 : st.1.length < 2000 := hf _ hok.nd hok.rc
      have hcr := reach_ok hb (hok.rc cur (List.mem_of_getElem? hcur'))
      refine sd_cons (ss_asg 7 (d := eStg (tickM bk cur d)) (ee_fld (ee_call cT hr (by decide) (ea_cons (ee_v 1 (dGears CG bk)) (ea_cons (ee_ixO 4 (q := p) (k := (n : Int)) (d := eStg cur) rfl (ee_v 5 (.int n)) (atI_nat (by rw [List.getElem?_map, hcur']; rfl))) (ea_cons (ee_ixT (i := 0) (ee_v 6 (eInp d)) ee_int rfl) (ea_cons (ee_ixT (i := 1) (ee_v 6 (eInp d)) ee_int rfl) ea_nil)))) ⟨bk, cur, d, hb, hcr, (hin d hdm).ord, rfl, rfl⟩) oS.cl (oS.na "standing" (by decide)) rfl) ?_ S.nd)
      by_cases hmem : tickM bk cur d ∈ st.1
      · have e : [d].foldl (bStep bk cur) st = st := by
          show bStep bk cur st d = st
          exact if_pos hmem
        rw [e]
        obtain ⟨pp, hpp⟩ := lookK_mem hok.len hmem
        refine sd_cons (ss_if (x := false) (ET.cast (et_ninDt 3 (q := q) (k := eStg (tickM bk cur d)) hr.units rfl (ee_v 7 (eStg (tickM bk cur d))) ⟨_, rfl⟩ (koks_stg _) (kok_stg _)) (by rw [dtN_map, hpp]; rfl)) (fun h => nomatch h) fun _ => sd_nil (sd_nil ⟨.im (eInp d), .im (eStg (tickM bk cur d)), rfl⟩))
      · have e : [d].foldl (bStep bk cur) st = (st.1 ++ [tickM bk cur d], st.2 ++ [some (cur, d)]) := by
          show bStep bk cur st d = _
          exact if_neg hmem
        rw [e]
        have hnone : dtN (eStg (tickM bk cur d)).nk (D.nks (st.1.map eStg)) (st.2.map ePar) = none := by rw [dtN_map, lookK_none hmem]; rfl
        refine sd_cons (ss_if (x := true) (ET.cast (et_ninDt 3 (q := q) (k := eStg (tickM bk cur d)) hr.units rfl (ee_v 7 (eStg (tickM bk cur d))) ⟨_, rfl⟩ (koks_stg _) (kok_stg _)) (by rw [hnone]; rfl)) (fun _ => ?_) fun h => nomatch h)
        refine sd_cons (ss_if (x := false) (ET.cast (et_c2 cmp_eqI (ee_lenDt 3 (q := q) B.len rfl (koks_stg _)) (ee_globI hM)) (decide_eq_false (by rw [List.length_map]; omega))) (fun h => nomatch h) fun _ => sd_nil ?_)
        refine sd_cons (ss_dtput 3 (q := q) hr.units rfl (ee_tup (ea_cons (ee_ixO 4 (q := p) (k := (n : Int)) (d := eStg cur) rfl (ee_v 5 (.int n)) (atI_nat (by rw [List.getElem?_map, hcur']; rfl))) (ea_cons (ee_v 6 (eInp d)) ea_nil))) (ee_v 7 (eStg (tickM bk cur d))) ⟨_, rfl⟩ (koks_stg _) (kok_stg _) hnone (by rw [List.length_map]; omega) ?_)
        refine sd_cons (ss_app 4 (q := p) rfl (ee_v 7 (eStg (tickM bk cur d))) (by rw [List.length_map]; omega) (sd_nil (sd_nil ⟨.im (eInp d), .im (eStg (tickM bk cur d)), ?_⟩)))
        simp only [List.map_append]
        rfl
    · rintro ss' ⟨x6, x7, rfl⟩
      rw [List.take_length]
      have e : (inputsM bk).foldl (bStep bk cur) (bIter bk n) = bIter bk (n + 1) := by
        rw [bIter, hcur]
      rw [e]
      refine sd_cons (ss_aug 5 (fn := fun a b => a + b) (m := (n : Int)) (n := 1) ip_add rfl ee_int (sd_nil ⟨2000 - (n + 1), by omega, n + 1, x6, x7, by omega, rfl, rfl⟩) S.nd)
  · have hge : (bIter bk n).1.length ≤ n := by simpa using hge
    have e : bfs bk = bIter bk n := bIter_end hge 2000 hn
    rw [e]
    refine sd_knowDt 3 rfl (sd_cons (ss_ret (ee_v 3 (.dt ((bIter bk n).1.map eStg) ((bIter bk n).2.map ePar))) rfl))
end
end Fw
namespace Fw
open PySem PySem.Spec PyProof.Rows L2
/-! ### what verdict tells -/
def badAt (b : Book) (s : Stg) : Option Inp := (inputsM b).find? fun i => hasBarredM b (tickT b s i).mom
def vM (b : Book) : List Inp ⊕ List Stg :=
  if isBarredM b (firstM b).lot then .inl []
  else match (bfs b).1.findSome? fun s => (badAt b s).map fun i => (s, i) with
    | some (s, i) => .inl (wayM (bfs b) s ++ [i])
    | none => .inr (bfs b).1
def eV : List Inp ⊕ List Stg → D
  | .inl h => .tup [.str "barred", .lst (h.map eInp)]
  | .inr t => .tup [.str "clean", .lst (t.map eStg)]
def lastMomM (b : Book) (is : List Inp) : List (List Str) :=
  match (runM b (firstM b) is).getLast? with
  | none => [(firstM b).lot]
  | some t => t.mom
section
variable {P : Program} {w : World} {K : PySem.W.Frag} {mg : Str → Option Value} {base : Heap} {CB CG CS CT : Addr}
def T_way (ds : List D) (d : D) : Prop := ∃ b st s, BOkS b st ∧ s ∈ st.1 ∧ st.1.length < 2000 ∧ ds = [.dt (st.1.map eStg) (st.2.map ePar), eStg s] ∧ d = .lst ((wayM st s).map eInp)
theorem c_way {f : Addr} {fd : FuncData} (F : C8.Def K mg "way_to" (top 42) f fd) (b : Binds K fd ["before", "standing"] []) : C8.Cal P w K mg base 1 "way_to" (spP ⟨P, w, K⟩ T_way) [] := by
  have S : FnScope ["before", "standing", "found", "told"] ["before", "standing"] (C8.fnScope (top 42)) := C8.fnScope_by (by decide +kernel)
  refine calP T_way F b S (fun ds d ⟨_, _, _, _, _, _, h, _⟩ => by rw [h]; rfl) (by decide) fun cdv A outer s H E hr ds d h => ?_
  obtain ⟨bk, st, s0, hst, hs, hl, rfl, rfl⟩ := h
  obtain ⟨j0, hj0⟩ := List.mem_iff_getElem?.mp hs
  have hj0l := (List.getElem?_eq_some_iff.mp hj0).1
  refine sd_cons (ss_asgO 2 (eo_lst ea_nil) (fun q => ?_) S.nd)
  refine sd_cons (ss_while (fun m ss' => ∃ s acc x3, st.1[m]? = some s ∧ wayM st s0 = backM st.1 st.2 (m + 1) s ++ acc.reverse ∧ acc.length + m ≤ 2000 ∧ ss' = [.im (.dt (st.1.map eStg) (st.2.map ePar)), .im (eStg s), .ow q (acc.map eInp), x3]) j0 ⟨s0, [], _, hj0, ?_, by simp; omega, rfl⟩ ?_)
  · rw [List.reverse_nil, List.append_nil]
    exact back_fuel hst j0 _ s0 hj0 hj0l
  rintro m ss' ⟨s1, acc, x3, hm, hw, hacc, rfl⟩
  have hml : m < st.2.length := by rw [hst.len]; exact (List.getElem?_eq_some_iff.mp hm).1
  have hlk := lookK_get hst.nd hm (List.getElem?_eq_getElem hml)
  have hdt : dtN (eStg s1).nk (D.nks (st.1.map eStg)) (st.2.map ePar) = some (ePar st.2[m]) := by rw [dtN_map, hlk]; rfl
  cases hp : st.2[m] with
  | none =>
    rw [hp] at hdt hlk
    refine ⟨false, ET.cast (et_c2 (cmp_notN (d := .non)) (ee_dtget hr.units (ee_v 0 (.dt (st.1.map eStg) (st.2.map ePar))) (ee_v 1 (eStg s1)) ⟨_, rfl⟩ (koks_stg _) (kok_stg _) hdt) ee_non) rfl, (fun h => nomatch h), fun _ => ?_⟩
    have e : backM st.1 st.2 (m + 1) s1 = [] := by
      rw [backM, hlk]
    rw [e, List.nil_append] at hw
    refine sd_know 2 rfl (sd_cons (ss_ret (EE.cast (EO.ee (eo_rev (ee_v 2 (.lst (acc.map eInp))))) ?_) rfl))
    rw [hw, List.map_reverse]
  | some pi =>
    obtain ⟨p, i⟩ := pi
    rw [hp] at hdt hlk
    obtain ⟨_, _, k, hk, hkp⟩ := hst.par m s1 p i hm (by rw [List.getElem?_eq_getElem hml, hp])
    refine ⟨true, ET.cast (et_c2 (cmp_notN (d := ePar (some (p, i)))) (ee_dtget hr.units (ee_v 0 (.dt (st.1.map eStg) (st.2.map ePar))) (ee_v 1 (eStg s1)) ⟨_, rfl⟩ (koks_stg _) (kok_stg _) hdt) ee_non) rfl, (fun _ => ?_), fun h => nomatch h⟩
    refine sd_cons (ss_tup (ee_dtget hr.units (ee_v 0 (.dt (st.1.map eStg) (st.2.map ePar))) (ee_v 1 (eStg s1)) ⟨_, rfl⟩ (koks_stg _) (kok_stg _) hdt) (gd_tup (gds_cons (gd_name 1 S.nd) (gds_cons (gd_name 3 S.nd) gds_nil))) ?_)
    refine sd_cons (ss_app 2 (q := q) rfl (ee_v 3 (eInp i)) (by rw [List.length_map]; omega) (sd_nil ⟨k, hk, p, acc ++ [i], .im (eInp i), hkp, ?_, ?_, ?_⟩))
    · rw [hw, backM, hlk, List.reverse_append, List.append_assoc]
      have := back_fuel hst k m p hkp hk
      rw [this]
      rfl
    · rw [List.length_append, List.length_singleton]
      omega
    · rw [List.map_append]
      rfl
def T_verdict (CB : Addr) (ds : List D) (d : D) : Prop := ∃ b, BOk b ∧ b.alms.length ≤ 2 ∧ Few b ∧ ds = [dBook CB b] ∧ d = eV (vM b)
theorem mom_len {b : Book} (hb : BOk b) {s : Stg} (h : SOk b s) (i : Inp) : (tickT b s i).mom.length ≤ 1000 := by
  obtain ⟨h1, h2, _⟩ := ansM_ok hb (t := ⟨s, [], [], []⟩) i.alms h
  have h2 : (ansM b ⟨s, [], [], []⟩ i.alms).mom.length ≤ 100 := by simpa using h2
  have go : ∀ t : TSt, (goM b t).mom.length ≤ t.mom.length + 1 := fun t => by
    unfold goM
    split
    · exact Nat.le_succ _
    · split
      · split
        · exact Nat.le_succ _
        · obtain ⟨g1, _⟩ := cmdM_more b { t with s := { t.s with left := t.s.left - 1 } } ‹Int × Str›.2
          refine Nat.le_trans ?_ g1
          unfold beginM
          split <;> exact Nat.le_refl _
      · exact Nat.le_succ _
  unfold tickT
  simp only
  split
  · have := (waitM_ok hb h1).2.1
    have := go (waitM b (ansM b ⟨s, [], [], []⟩ i.alms))
    omega
  · rename_i o e
    have h2 := (obeyM_ok hb h1 o).2.1
    cases e : obeyM b (ansM b ⟨s, [], [], []⟩ i.alms) o with
    | mk c t' =>
      rw [e] at h2
      have h2 : t'.mom.length ≤ _ := h2
      cases c
      · have := go t'
        show (goM b t').mom.length ≤ _
        omega
      · show t'.mom.length ≤ _
        omega
theorem find_take {α : Type} {p : α → Bool} {l : List α} {i : Nat} {x : α} (hx : l[i]? = some x) (h : ∀ y ∈ l.take i, p y = false) (hp : p x = true) : l.find? p = some x := by
  have e : l = l.take i ++ x :: l.drop (i + 1) := by
    obtain ⟨h1, h2⟩ := List.getElem?_eq_some_iff.mp hx
    rw [← h2, List.getElem_cons_drop, List.take_append_drop]
  rw [e, List.find?_append, List.find?_eq_none.mpr fun y hy => by simp [h y hy]]
  simp [hp]
theorem findSome_take {α β : Type} {p : α → Option β} {l : List α} {i : Nat} {x : α} {y : β} (hx : l[i]? = some x) (h : ∀ y ∈ l.take i, p y = none) (hp : p x = some y) : l.findSome? p = some y := by
  have e : l = l.take i ++ x :: l.drop (i + 1) := by
    obtain ⟨h1, h2⟩ := List.getElem?_eq_some_iff.mp hx
    rw [← h2, List.getElem_cons_drop, List.take_append_drop]
  rw [e, List.findSome?_append, List.findSome?_eq_none_iff.mpr h]
  simp [hp]
theorem c_verdict {f : Addr} {fd : FuncData} (F : C8.Def K mg "verdict" (top 43) f fd) (b : Binds K fd ["book"] []) (B : Bt mg) (oS : Own K CS stepNs) (c1 : C8.Cal P w K mg base 6 "befores" (spP ⟨P, w, K⟩ (T_bef CB)) []) (c2 : C8.Cal P w K mg base 1 "way_to" (spP ⟨P, w, K⟩ T_way) []) (c3 : C8.Cal P w K mg base 3 "is_barred" (spP ⟨P, w, K⟩ (T_is_barred CB)) []) (c4 : C8.Cal P w K mg base 4 "has_barred" (spP ⟨P, w, K⟩ (T_has_barred CB)) [])
    (cG : C8.Mak P w K mg base 3 "Gears" CG (spI ⟨P, w, K⟩ CG (T_Gears CB)) []) (cI : C8.Cal P w K mg base 4 "inputs_of" (spP ⟨P, w, K⟩ (T_inputs CB)) []) (cF : C8.Cal P w K mg base 3 "first_standing" (spP ⟨P, w, K⟩ (T_first CB)) []) (cT : C8.Cal P w K mg base 5 "tick_by" (spP ⟨P, w, K⟩ (T_tick CS CG)) []) : C8.Cal P w K mg base 7 "verdict" (spP ⟨P, w, K⟩ (T_verdict CB)) [] := by
  have S : FnScope ["book", "before", "gears", "inputs", "standing", "told"] ["book"] (C8.fnScope (top 43)) := C8.fnScope_by (by decide +kernel)
  refine calP (T_verdict CB) F b S (fun ds d ⟨_, _, _, _, h, _⟩ => by rw [h]; rfl) (by decide) fun cdv A outer s H E hr ds d h => ?_
  obtain ⟨bk, hb, ha, hf, rfl, rfl⟩ := h
  have hin := inputs_ok hb ha
  have hst := bIter_ok bk 2000
  have hfew := bIter_few hf 2000
  refine sd_cons (ss_asg 1 (ee_call c1 hr (by decide) (ea_cons (ee_v 0 (dBook CB bk)) ea_nil) ⟨bk, hb, ha, hf, rfl, rfl⟩) ?_ S.nd)
  cases hb0 : isBarredM bk (firstM bk).lot with
  | true =>
    refine sd_cons (ss_if (x := true) (et_val (ee_call c3 hr (by decide) (ea_cons (ee_v 0 (dBook CB bk)) (ea_cons (ee_ixT (i := 1) (d := eLot (firstM bk).lot) (ee_call cF hr (by decide) (ea_cons (ee_v 0 (dBook CB bk)) ea_nil) ⟨bk, hb, rfl, rfl⟩) ee_int rfl) ea_nil)) ⟨bk, _, hb, rfl, by rw [hb0]⟩)) (fun _ => ?_) fun h => nomatch h)
    refine sd_cons (ss_ret (ee_tup (ea_cons ee_str (ea_cons (EO.ee (eo_lst ea_nil)) ea_nil))) ?_)
    show Slot.im _ = Slot.im (eV (vM bk))
    unfold vM
    rw [hb0]
    rfl
  | false =>
    refine sd_cons (ss_if (x := false) (et_val (ee_call c3 hr (by decide) (ea_cons (ee_v 0 (dBook CB bk)) (ea_cons (ee_ixT (i := 1) (d := eLot (firstM bk).lot) (ee_call cF hr (by decide) (ea_cons (ee_v 0 (dBook CB bk)) ea_nil) ⟨bk, hb, rfl, rfl⟩) ee_int rfl) ea_nil)) ⟨bk, _, hb, rfl, by rw [hb0]⟩)) (fun h => nomatch h) fun _ => sd_nil ?_)
    refine sd_cons (ss_asg 2 (d := dGears CG bk) (ee_make cG hr (by decide) (ea_cons (ee_v 0 (dBook CB bk)) ea_nil) ⟨bk, hb, rfl, rfl⟩ (fun fs h => by rw [h]; rfl)) ?_ S.nd)
    refine sd_cons (ss_asg 3 (ee_call cI hr (by decide) (ea_cons (ee_v 0 (dBook CB bk)) ea_nil) ⟨bk, hb, ha, rfl, rfl⟩) ?_ S.nd)
    refine sd_cons (ss_for eStg (fun t => [(4, eStg t)]) (ei_dt (ee_v 1 (.dt ((bfs bk).1.map eStg) ((bfs bk).2.map ePar)))) (fun i ss' => ∃ x4 x5, (∀ t ∈ (bfs bk).1.take i, badAt bk t = none) ∧ ss' = [.im (dBook CB bk), .im (.dt ((bfs bk).1.map eStg) ((bfs bk).2.map ePar)), .im (dGears CG bk), .im (.lst ((inputsM bk).map eInp)), x4, x5]) ⟨_, _, (fun t h => by simp at h), rfl⟩ ?_ ?_ ?_)
    · rintro i d ss' hd ⟨x4, x5, hno, rfl⟩
      exact gd_name 4 S.nd
    · rintro i d ss' hd ⟨x4, x5, hno, rfl⟩
      have hdm : d ∈ (bfs bk).1 := List.mem_of_getElem? hd
      have hok := reach_ok hb (hst.rc d hdm)
      refine sd_cons (ss_for eInp (fun t => [(5, eInp t)]) (ei_lst (ee_v 3 (.lst ((inputsM bk).map eInp)))) (fun j ss' => ∃ x5, (∀ t ∈ (inputsM bk).take j, hasBarredM bk (tickT bk d t).mom = false) ∧ ss' = [.im (dBook CB bk), .im (.dt ((bfs bk).1.map eStg) ((bfs bk).2.map ePar)), .im (dGears CG bk), .im (.lst ((inputsM bk).map eInp)), .im (eStg d), x5]) ⟨_, (fun t h => by simp at h), rfl⟩ ?_ ?_ ?_)
      · rintro j t ss' ht ⟨x5, hno2, rfl⟩
        exact gd_name 5 S.nd
      · rintro j t ss' ht ⟨x5, hno2, rfl⟩
        have htm : t ∈ inputsM bk := List.mem_of_getElem? ht
        cases hbb : hasBarredM bk (tickT bk d t).mom with
        | true =>
          refine sd_cons (ss_if (x := true) (et_val (ee_call c4 hr (by decide) (ea_cons (ee_v 0 (dBook CB bk)) (ea_cons (ee_fld (ee_call cT hr (by decide) (ea_cons (ee_v 2 (dGears CG bk)) (ea_cons (ee_v 4 (eStg d)) (ea_cons (ee_ixT (i := 0) (ee_v 5 (eInp t)) ee_int rfl) (ea_cons (ee_ixT (i := 1) (ee_v 5 (eInp t)) ee_int rfl) ea_nil)))) ⟨bk, d, t, hb, hok, (hin t htm).ord, rfl, rfl⟩) oS.cl (oS.na "moments" (by decide)) rfl) ea_nil)) ⟨bk, (tickT bk d t).mom, hb, Nat.le_trans (mom_len hb hok t) (by decide), rfl, by rw [hbb]⟩)) (fun _ => ?_) fun h => nomatch h)
          have hwl : (wayM (bfs bk) d).length ≤ 2000 := by
            have : ∀ (n : Nat) (s : Stg), (backM (bfs bk).1 (bfs bk).2 n s).length ≤ n := fun n => by
              induction n with
              | zero => intro s; exact Nat.le_refl _
              | succ n ih =>
                intro s
                unfold backM
                split
                · rw [List.length_append, List.length_singleton]
                  exact Nat.succ_le_succ (ih _)
                · exact Nat.zero_le _
            have h1 := this (bfs bk).1.length d
            have h2 : (bfs bk).1.length < 2000 := hfew
            unfold wayM
            omega
          refine sd_cons (ss_ret (EE.cast (ee_tup (ea_cons ee_str (ea_cons (EO.ee (eo_cat (ee_call c2 hr (by decide) (ea_cons (ee_v 1 (.dt ((bfs bk).1.map eStg) ((bfs bk).2.map ePar))) (ea_cons (ee_v 4 (eStg d)) ea_nil)) ⟨bk, bfs bk, d, hst, hdm, hfew, rfl, rfl⟩) (EO.ee (eo_lst (ea_cons (ee_v 5 (eInp t)) ea_nil))) (by rw [List.length_map, List.length_singleton]; omega))) ea_nil))) ?_) rfl)
          have hba : badAt bk d = some t := find_take ht hno2 hbb
          have e : vM bk = .inl (wayM (bfs bk) d ++ [t]) := by
            unfold vM
            rw [hb0, if_neg (by decide), findSome_take (i := i) (x := d) (y := (d, t)) hd (fun y hy => by rw [hno y hy]; rfl) (by rw [hba]; rfl)]
          rw [e]
          show _ = D.tup [.str "barred", .lst ((wayM (bfs bk) d ++ [t]).map eInp)]
          rw [List.map_append]
          rfl
        | false =>
          refine sd_cons (ss_if (x := false) (et_val (ee_call c4 hr (by decide) (ea_cons (ee_v 0 (dBook CB bk)) (ea_cons (ee_fld (ee_call cT hr (by decide) (ea_cons (ee_v 2 (dGears CG bk)) (ea_cons (ee_v 4 (eStg d)) (ea_cons (ee_ixT (i := 0) (ee_v 5 (eInp t)) ee_int rfl) (ea_cons (ee_ixT (i := 1) (ee_v 5 (eInp t)) ee_int rfl) ea_nil)))) ⟨bk, d, t, hb, hok, (hin t htm).ord, rfl, rfl⟩) oS.cl (oS.na "moments" (by decide)) rfl) ea_nil)) ⟨bk, (tickT bk d t).mom, hb, Nat.le_trans (mom_len hb hok t) (by decide), rfl, by rw [hbb]⟩)) (fun h => nomatch h) fun _ => sd_nil (sd_nil ⟨.im (eInp t), fun y hy => ?_, rfl⟩))
          rw [take_snoc ht] at hy
          rcases List.mem_append.mp hy with z | z
          · exact hno2 y z
          · rw [List.mem_singleton.mp z]
            exact hbb
      · rintro ss' ⟨x5, hno2, rfl⟩
        rw [List.take_length] at hno2
        refine sd_nil ⟨.im (eStg d), x5, fun y hy => ?_, rfl⟩
        rw [take_snoc hd] at hy
        rcases List.mem_append.mp hy with z | z
        · exact hno y z
        · rw [List.mem_singleton.mp z]
          exact List.find?_eq_none.mpr fun t ht => by rw [hno2 t ht]; decide
    · rintro ss' ⟨x4, x5, hno, rfl⟩
      rw [List.take_length] at hno
      refine sd_cons (ss_ret (ee_tup (ea_cons ee_str (ea_cons (EO.ee (eo_listDt B.list (ee_v 1 (.dt ((bfs bk).1.map eStg) ((bfs bk).2.map ePar))))) ea_nil))) ?_)
      show Slot.im _ = Slot.im (eV (vM bk))
      unfold vM
      rw [hb0, if_neg (by decide), List.findSome?_eq_none_iff.mpr fun t ht => by rw [hno t ht]; rfl]
      rfl
def T_ibh (CB : Addr) (ds : List D) (d : D) : Prop := ∃ b, ∃ is : List Inp, BOk b ∧ (∀ i ∈ is, InpOk b i) ∧ is.length ≤ 10000 ∧ ds = [dBook CB b, .lst (is.map eInp)] ∧ d = .bl (hasBarredM b (lastMomM b is))
theorem c_ibh {f : Addr} {fd : FuncData} (F : C8.Def K mg "is_barred_history" (top 44) f fd) (b : Binds K fd ["book", "history"] []) (oS : Own K CS stepNs) (c1 : C8.Cal P w K mg base 6 "run_of" (spP ⟨P, w, K⟩ (T_run CB CS)) []) (c4 : C8.Cal P w K mg base 4 "has_barred" (spP ⟨P, w, K⟩ (T_has_barred CB)) []) (cF : C8.Cal P w K mg base 3 "first_standing" (spP ⟨P, w, K⟩ (T_first CB)) []) : C8.Cal P w K mg base 7 "is_barred_history" (spP ⟨P, w, K⟩ (T_ibh CB)) [] := by
  have S : FnScope ["book", "history", "steps"] ["book", "history"] (C8.fnScope (top 44)) := C8.fnScope_by (by decide +kernel)
  refine calP (T_ibh CB) F b S (fun ds d ⟨_, _, _, _, _, h, _⟩ => by rw [h]; rfl) (by decide) fun cdv A outer s H E hr ds d h => ?_
  obtain ⟨bk, is, hb, hi, hl, rfl, rfl⟩ := h
  have hF := firstM_ok hb
  refine sd_cons (ss_asg 2 (ee_call c1 hr (by decide) (ea_cons (ee_v 0 (dBook CB bk)) (ea_cons (ee_v 1 (.lst (is.map eInp))) ea_nil)) ⟨bk, is, hb, hi, hl, rfl, rfl⟩) ?_ S.nd)
  rcases List.eq_nil_or_concat is with rfl | ⟨r, i, rfl⟩
  · exact sd_cons (ss_ret (ee_call c4 hr (by decide) (ea_cons (ee_v 0 (dBook CB bk)) (ea_cons (ee_if (x := false) (et_lst (ds := []) (ee_v 2 (.lst []))) (fun h => nomatch h) fun _ => EO.ee (eo_lst (ea_cons (ee_ixT (i := 1) (d := eLot (firstM bk).lot) (ee_call cF hr (by decide) (ea_cons (ee_v 0 (dBook CB bk)) ea_nil) ⟨bk, hb, rfl, rfl⟩) ee_int rfl) ea_nil))) ea_nil)) ⟨bk, [(firstM bk).lot], hb, by simp, rfl, rfl⟩) rfl)
  · rw [List.concat_eq_append] at hi ⊢
    have e : runM bk (firstM bk) (r ++ [i]) = runM bk (firstM bk) r ++ [tickT bk (endM bk (firstM bk) r) i] := runM_snoc bk r _ i
    have hlast : lastMomM bk (r ++ [i]) = (tickT bk (endM bk (firstM bk) r) i).mom := by
      unfold lastMomM
      rw [e, List.getLast?_append]
      rfl
    have hok := endM_ok hb r hF
    have e2 : (runM bk (firstM bk) (r ++ [i])).map (dStep CS) = (runM bk (firstM bk) r).map (dStep CS) ++ [dStep CS (tickT bk (endM bk (firstM bk) r) i)] := by rw [e, List.map_append]; rfl
    rw [e2, hlast]
    refine sd_cons (ss_ret (ee_call c4 hr (by decide) (ea_cons (ee_v 0 (dBook CB bk)) (ea_cons (ee_if (x := true) (ET.cast (et_lst (ds := (runM bk (firstM bk) r).map (dStep CS) ++ [dStep CS (tickT bk (endM bk (firstM bk) r) i)]) (ee_v 2 (.lst ((runM bk (firstM bk) r).map (dStep CS) ++ [dStep CS (tickT bk (endM bk (firstM bk) r) i)])))) ?_) (fun _ => ee_fld (ee_ixL (i := -1) (d := dStep CS (tickT bk (endM bk (firstM bk) r) i)) (ee_v 2 (.lst ((runM bk (firstM bk) r).map (dStep CS) ++ [dStep CS (tickT bk (endM bk (firstM bk) r) i)]))) (ee_neg ee_int) (atI_last _ _)) oS.cl (oS.na "moments" (by decide)) rfl) fun h => nomatch h) ea_nil)) ⟨bk, (tickT bk (endM bk (firstM bk) r) i).mom, hb, Nat.le_trans (mom_len hb hok i) (by decide), rfl, rfl⟩) rfl)
    simp
end
end Fw
namespace Fw
open PySem PySem.Spec PyProof.Rows L2
/-! ### the numbers of a script -/
structure RowS where
  rest : Int
  state : Int
  acc : List Int
def rowStep (t : RowS) (k : Nat) : RowS :=
  let s := ((t.state + 1) * 48271 + 69621 * (k : Int)) % 2147483647
  if t.rest > 0 then ⟨t.rest / 1009, s, t.acc ++ [t.rest % 1009]⟩ else ⟨t.rest, s, t.acc ++ [s / 2048 % 1009]⟩
def absI (i : Int) : Int := if i < 0 then -i else i
def row0 (cell : Int) : RowS := ⟨if absI cell ≥ 1000000000000000000 then absI cell else 0, absI cell % 2147483647, []⟩
def rowIt (cell : Int) (n : Nat) : RowS := (List.range n).foldl rowStep (row0 cell)
def rowM (cell : Int) (n : Nat) : List Int := (rowIt cell n).acc
theorem rowIt_succ (cell : Int) (n : Nat) : rowIt cell (n + 1) = rowStep (rowIt cell n) n := by
  unfold rowIt
  rw [List.range_succ, List.foldl_append]
  rfl
def InR (n : Int) : Prop := 0 ≤ n ∧ n < 1009
theorem rowIt_ok (cell : Int) : ∀ n, (rowIt cell n).acc.length = n ∧ ∀ x ∈ (rowIt cell n).acc, InR x
  | 0 => ⟨rfl, fun x h => (by cases h)⟩
  | n + 1 => by
    obtain ⟨h1, h2⟩ := rowIt_ok cell n
    rw [rowIt_succ]
    unfold rowStep
    simp only
    split
    · refine ⟨by simp [h1], fun x hx => ?_⟩
      rcases List.mem_append.mp hx with z | z
      · exact h2 x z
      · rw [List.mem_singleton.mp z]
        exact ⟨Int.emod_nonneg _ (by decide), Int.emod_lt_of_pos _ (by decide)⟩
    · refine ⟨by simp [h1], fun x hx => ?_⟩
      rcases List.mem_append.mp hx with z | z
      · exact h2 x z
      · rw [List.mem_singleton.mp z]
        exact ⟨Int.emod_nonneg _ (by decide), Int.emod_lt_of_pos _ (by decide)⟩
def eInts (l : List Int) : D := .lst (l.map .int)
def eachM (cells : List Int) (many : Nat) : Nat := 1 + many / max 1 cells.length
def flatM (cells : List Int) (many : Nat) : List Int := cells.flatMap fun c => rowM c (eachM cells many)
def numsM (cells : List Int) (many : Nat) : List Int := (flatM cells many ++ List.replicate (many - (flatM cells many).length) 0).take many
theorem numsM_ok (cells : List Int) (many : Nat) : (numsM cells many).length = many ∧ ∀ x ∈ numsM cells many, InR x := by
  unfold numsM
  refine ⟨?_, fun x hx => ?_⟩
  · rw [List.length_take, List.length_append, List.length_replicate]
    omega
  · rcases List.mem_append.mp (List.mem_of_mem_take hx) with z | z
    · obtain ⟨c, _, hc⟩ := List.mem_flatMap.mp z
      exact (rowIt_ok c _).2 x hc
    · rw [List.eq_of_mem_replicate z]
      exact ⟨by decide, by decide⟩
section
variable {P : Program} {w : World} {K : PySem.W.Frag} {mg : Str → Option Value} {base : Heap}
def T_row (ds : List D) (d : D) : Prop := ∃ cell, ∃ n : Nat, n ≤ 1000 ∧ ds = [.int cell, .int n] ∧ d = eInts (rowM cell n)
theorem l_row {f : Addr} {fd : FuncData} (F : C8.Def K mg "_law_row" (top 46) f fd) (b : Binds K fd ["_law_cell", "_law_many"] []) (B : Bt mg) : C8.Cal P w K mg base 1 "_law_row" (spP ⟨P, w, K⟩ T_row) [] := by
  have S : FnScope ["_law_cell", "_law_many", "_law_row_here", "_law_rest", "_law_state", "_law_k"] ["_law_cell", "_law_many"] (C8.fnScope (top 46)) := C8.fnScope_by (by decide +kernel)
  refine calP T_row F b S (fun ds d ⟨_, _, _, h, _⟩ => by rw [h]; rfl) (by decide) fun cdv A outer s H E hr ds d h => ?_
  obtain ⟨cell, n, hn, rfl, rfl⟩ := h
  refine sd_cons (ss_asgO 2 (eo_lst ea_nil) (fun q => ?_) S.nd)
  refine sd_cons (ss_asg 3 ee_int ?_ S.nd)
  have mid : ∀ r0 : Int, r0 = (row0 cell).rest → SD (cxOf C8.CX0 P w K mg base ["_law_cell", "_law_many", "_law_row_here", "_law_rest", "_law_state", "_law_k"] "_law_row" (C8.fnScope (top 46)) f cdv A outer s H E).nox [.im (.int cell), .im (.int n), .ow q [], .im (.int r0), .no, .no] ((C8.fnBody (top 46)).drop 3) { nx := fun _ => eInts (rowM cell n) = .non, rt := fun t _ => t = .im (eInts (rowM cell n)) } := fun r0 hr0 => by
    refine sd_cons (ss_asg 4 (ee_mod (by decide) (ee_intI B.int (ee_abs B.abs (ee_v 0 (.int cell)))) ee_int) ?_ S.nd)
    refine sd_cons (ss_for (fun i : Nat => .int i) (fun m => [(5, .int m)]) (ei_rng B.range (ee_v 1 (.int n)) (by omega)) (fun i ss' => ∃ x5, ss' = [.im (.int cell), .im (.int n), .ow q ((rowIt cell i).acc.map .int), .im (.int (rowIt cell i).rest), .im (.int (rowIt cell i).state), x5]) ⟨_, by rw [hr0]; rfl⟩ ?_ ?_ ?_)
    · rintro i m ss' hm ⟨x5, rfl⟩
      exact gd_name 5 S.nd
    · rintro i m ss' hm ⟨x5, rfl⟩
      have hm2 : i < n ∧ m = i := by
        obtain ⟨h1, h2⟩ := List.getElem?_eq_some_iff.mp hm
        rw [List.length_range] at h1
        rw [List.getElem_range] at h2
        exact ⟨h1, h2.symm⟩
      obtain ⟨hi, rfl⟩ := hm2
      have hl := (rowIt_ok cell m).1
      rw [rowIt_succ]
      generalize rowIt cell m = t at hl
      refine sd_cons (ss_asg 4 (ee_mod (by decide) (ee_intI B.int (ee_add (ee_mul (.inr ⟨by decide, by decide⟩) (ee_add (ee_v 4 (.int t.state)) ee_int) ee_int) (ee_mul (.inl ⟨by decide, by decide⟩) ee_int (ee_v 5 (.int m))))) ee_int) ?_ S.nd)
      by_cases h : t.rest > 0
      · have e : rowStep t m = ⟨t.rest / 1009, ((t.state + 1) * 48271 + 69621 * (m : Int)) % 2147483647, t.acc ++ [t.rest % 1009]⟩ := by
          unfold rowStep
          simp only
          rw [if_pos h]
        rw [e]
        refine sd_cons (ss_if (x := true) (ET.cast (et_c2 cmp_gt (ee_v 3 (.int t.rest)) ee_int) (decide_eq_true h)) (fun _ => ?_) fun h => nomatch h)
        refine sd_cons (ss_app 2 (q := q) rfl (ee_mod (by decide) (ee_intI B.int (ee_v 3 (.int t.rest))) ee_int) (by rw [List.length_map]; omega) ?_)
        refine sd_cons (ss_asg 3 (ee_fdiv ⟨by decide, by decide⟩ (ee_v 3 (.int t.rest)) ee_int) (sd_nil (sd_nil ⟨.im (.int m), ?_⟩)) S.nd)
        simp only [List.map_append]
        rfl
      · have e : rowStep t m = ⟨t.rest, ((t.state + 1) * 48271 + 69621 * (m : Int)) % 2147483647, t.acc ++ [((t.state + 1) * 48271 + 69621 * (m : Int)) % 2147483647 / 2048 % 1009]⟩ := by
          unfold rowStep
          simp only
          rw [if_neg h]
        rw [e]
        refine sd_cons (ss_if (x := false) (ET.cast (et_c2 cmp_gt (ee_v 3 (.int t.rest)) ee_int) (decide_eq_false h)) (fun h => nomatch h) fun _ => ?_)
        refine sd_cons (ss_app 2 (q := q) rfl (ee_mod (by decide) (ee_intI B.int (ee_fdiv ⟨by decide, by decide⟩ (ee_v 4 (.int (((t.state + 1) * 48271 + 69621 * (m : Int)) % 2147483647))) ee_int)) ee_int) (by rw [List.length_map]; omega) (sd_nil (sd_nil ⟨.im (.int m), ?_⟩)))
        simp only [List.map_append]
        rfl
    · rintro ss' ⟨x5, rfl⟩
      rw [List.length_range]
      exact sd_know 2 rfl (sd_cons (ss_ret (ee_v 2 (eInts (rowM cell n))) rfl))
  have e18 : ((10 : Int) ^ (18 : Int).toNat) = 1000000000000000000 := by decide
  by_cases h : absI cell ≥ 1000000000000000000
  · refine sd_cons (ss_if (x := true) (ET.cast (et_c2 cmp_ge (ee_abs B.abs (ee_v 0 (.int cell))) (ee_pow ⟨by decide, by decide, by decide⟩ ee_int ee_int)) (by rw [e18]; exact decide_eq_true h)) (fun _ => sd_cons (ss_asg 3 (ee_abs B.abs (ee_v 0 (.int cell))) (sd_nil ?_) S.nd)) fun h => nomatch h)
    exact mid _ (by unfold row0; rw [if_pos h]; rfl)
  · refine sd_cons (ss_if (x := false) (ET.cast (et_c2 cmp_ge (ee_abs B.abs (ee_v 0 (.int cell))) (ee_pow ⟨by decide, by decide, by decide⟩ ee_int ee_int)) (by rw [e18]; exact decide_eq_false h)) (fun h => nomatch h) fun _ => sd_nil ?_)
    exact mid _ (by unfold row0; rw [if_neg h])
def T_nums (ds es : List D) : Prop := ∃ script : List Int, ∃ many : Nat, many ≤ 400 ∧ ds = [.sq (script.map .int), .int many] ∧ es = (numsM (script.take 63) many).map .int
theorem flat_len (cells : List Int) (n : Nat) : (cells.flatMap fun c => rowM c n).length = cells.length * n := by
  induction cells with
  | nil => simp
  | cons c r ih =>
    have h : (rowM c n).length = n := (rowIt_ok c n).1
    rw [List.flatMap_cons, List.length_append, ih, h, List.length_cons, Nat.succ_mul]
    omega
theorem l_nums {f : Addr} {fd : FuncData} (F : C8.Def K mg "_law_numbers" (top 47) f fd) (b : Binds K fd ["_law_script", "_law_many"] []) (B : Bt mg) (c1 : C8.Cal P w K mg base 1 "_law_row" (spP ⟨P, w, K⟩ T_row) []) : C8.Cal P w K mg base 2 "_law_numbers" (spO ⟨P, w, K⟩ T_nums) [] := by
  have S : FnScope ["_law_script", "_law_many", "_law_cells", "_law_each", "_law_numbers_here", "_law_cell", "_law_number"] ["_law_script", "_law_many"] (C8.fnScope (top 47)) := C8.fnScope_by (by decide +kernel)
  refine calO T_nums F b S (fun ds d ⟨_, _, _, h, _⟩ => by rw [h]; rfl) (by decide) fun cdv A outer s H E hr ds d h => ?_
  obtain ⟨script, many, hmany, rfl, rfl⟩ := h
  have hcl : (script.take 63).length ≤ 63 := by rw [List.length_take]; omega
  have hea : eachM (script.take 63) many ≤ 401 := by
    unfold eachM
    have := Nat.div_le_self many (max 1 (script.take 63).length)
    omega
  refine sd_cons (ss_asgO 2 (eo_takeQ (n := 63) (ee_v 0 (.sq (script.map .int))) ee_int) (fun q => ?_) S.nd)
  refine sd_know 2 rfl ?_
  rw [← List.map_take]
  generalize script.take 63 = cells at hcl hea
  have emax : (if (cells.length : Int) > 1 then (cells.length : Int) else 1) = ((max 1 cells.length : Nat) : Int) := by
    split <;> omega
  have hpos : CDiv (many : Int) ((max 1 cells.length : Nat) : Int) := ⟨by omega, by omega⟩
  refine sd_cons (ss_asg 3 (d := .int (eachM cells many)) (EE.cast (ee_add ee_int (ee_fdiv hpos (ee_v 1 (.int many)) (EE.cast (ee_max2 B.max ee_int (ee_lenL B.len (ee_v 2 (.lst (cells.map .int))))) (by rw [List.length_map, emax])))) ?_) ?_ S.nd)
  · unfold eachM
    rw [← Int.natCast_ediv]
    rfl
  refine sd_cons (ss_asgO 4 (eo_lst ea_nil) (fun q2 => ?_) S.nd)
  refine sd_cons (ss_for (fun c : Int => .int c) (fun m => [(5, .int m)]) (ei_lst (ee_v 2 (.lst (cells.map .int)))) (fun i ss' => ∃ x5 x6, ss' = [.im (.sq (script.map .int)), .im (.int many), .im (.lst (cells.map .int)), .im (.int (eachM cells many)), .ow q2 (((cells.take i).flatMap fun c => rowM c (eachM cells many)).map .int), x5, x6]) ⟨_, _, rfl⟩ ?_ ?_ ?_)
  · rintro i m ss' hm ⟨x5, x6, rfl⟩
    exact gd_name 5 S.nd
  · rintro i m ss' hm ⟨x5, x6, rfl⟩
    have hil : i < cells.length := (List.getElem?_eq_some_iff.mp hm).1
    have hfl : ((cells.take i).flatMap fun c => rowM c (eachM cells many)).length ≤ 63 * 401 := by
      rw [flat_len]
      exact Nat.mul_le_mul (by rw [List.length_take]; omega) hea
    refine sd_cons (ss_for (fun c : Int => .int c) (fun m => [(6, .int m)]) (ei_lst (ee_call c1 hr (by decide) (ea_cons (ee_v 5 (.int m)) (ea_cons (ee_v 3 (.int (eachM cells many))) ea_nil)) ⟨m, eachM cells many, by omega, rfl, rfl⟩)) (fun j ss' => ∃ x6, ss' = [.im (.sq (script.map .int)), .im (.int many), .im (.lst (cells.map .int)), .im (.int (eachM cells many)), .ow q2 ((((cells.take i).flatMap fun c => rowM c (eachM cells many)) ++ (rowM m (eachM cells many)).take j).map .int), .im (.int m), x6]) ⟨_, by rw [List.take_zero, List.append_nil]; rfl⟩ ?_ ?_ ?_)
    · rintro j y ss' hy ⟨x6, rfl⟩
      exact gd_name 6 S.nd
    · rintro j y ss' hy ⟨x6, rfl⟩
      have hrl : (rowM m (eachM cells many)).length = eachM cells many := (rowIt_ok m _).1
      refine sd_cons (ss_app 4 (q := q2) rfl (ee_v 6 (.int y)) ?_ (sd_nil ⟨.im (.int y), ?_⟩))
      · rw [List.length_map, List.length_append, List.length_take]
        omega
      · rw [take_snoc hy, ← List.append_assoc, List.map_append (l₂ := [y])]
        rfl
    · rintro ss' ⟨x6, rfl⟩
      rw [List.take_length]
      refine sd_nil ⟨.im (.int m), x6, ?_⟩
      rw [take_snoc hm, List.flatMap_append, List.flatMap_cons, List.flatMap_nil, List.append_nil]
  · rintro ss' ⟨x5, x6, rfl⟩
    rw [List.take_length]
    have hfl : (flatM cells many).length ≤ 63 * 401 := by
      unfold flatM
      rw [flat_len]
      exact Nat.mul_le_mul hcl hea
    refine sd_cons (ss_while (fun m ss' => ∃ j, m = many - ((flatM cells many).length + j) ∧ (j = 0 ∨ (flatM cells many).length + j ≤ many) ∧ ss' = [.im (.sq (script.map .int)), .im (.int many), .im (.lst (cells.map .int)), .im (.int (eachM cells many)), .ow q2 ((flatM cells many ++ List.replicate j 0).map .int), x5, x6]) (many - (flatM cells many).length) ⟨0, rfl, .inl rfl, by rw [List.replicate_zero, List.append_nil]; rfl⟩ ?_)
    rintro m ss' ⟨j, rfl, hj, rfl⟩
    have hlen : (flatM cells many ++ List.replicate j 0).length = (flatM cells many).length + j := by rw [List.length_append, List.length_replicate]
    refine ⟨decide ((flatM cells many).length + j < many), ET.cast (et_c2 cmp_lt (ee_lenO 4 (q := q2) B.len rfl) (ee_v 1 (.int many))) ?_, fun hlt => ?_, fun hge => ?_⟩
    · rw [List.length_map, hlen, Bool.eq_iff_iff]
      simp only [decide_eq_true_eq]
      omega
    · have hlt : (flatM cells many).length + j < many := by simpa using hlt
      refine sd_cons (ss_app 4 (q := q2) rfl ee_int (by rw [List.length_map, hlen]; omega) (sd_nil ⟨many - ((flatM cells many).length + (j + 1)), by omega, j + 1, rfl, .inr (by omega), ?_⟩))
      rw [List.replicate_succ', ← List.append_assoc, List.map_append (l₂ := [0])]
      rfl
    · have hge : ¬ (flatM cells many).length + j < many := by simpa using hge
      refine sd_know 4 rfl (sd_cons (ss_retO (EO.cast (eo_take (n := many) (ee_v 4 (.lst ((flatM cells many ++ List.replicate j 0).map .int))) (ee_v 1 (.int many))) ?_) fun q => ⟨q, rfl⟩))
      show _ = (numsM cells many).map D.int
      rw [← List.map_take]
      unfold numsM
      rcases hj with rfl | hj
      · rw [show many - (flatM cells many).length = 0 by omega]
      · rw [show many - (flatM cells many).length = j by omega]
end
end Fw
namespace Fw
open PySem PySem.Spec PyProof.Rows L2
/-! ### names and lots that the law draws -/
def letN (i : Int) : Nat := lettersS.cps.toList.getD (i % 36).toNat 0
theorem letters_len : lettersS.cps.toList.length = 36 := by decide +kernel
theorem letN_at (i : Int) : atI lettersS.cps.toList (i % 36) = some (letN i) := by
  have h0 : 0 ≤ i % 36 := Int.emod_nonneg _ (by decide)
  have h1 : i % 36 < 36 := Int.emod_lt_of_pos _ (by decide)
  obtain ⟨j, hj⟩ : ∃ j : Nat, i % 36 = (j : Int) := ⟨(i % 36).toNat, by omega⟩
  have hl : j < lettersS.cps.toList.length := by rw [letters_len]; omega
  rw [hj, atI_nat (v := lettersS.cps.toList[j]) (List.getElem?_eq_getElem hl)]
  unfold letN
  rw [hj, Int.toNat_natCast, List.getD_eq_getElem?_getD, List.getElem?_eq_getElem hl]
  rfl
theorem letN_mem (i : Int) : letN i ∈ lettersS.cps.toList := by
  have h0 : 0 ≤ i % 36 := Int.emod_nonneg _ (by decide)
  have h1 : i % 36 < 36 := Int.emod_lt_of_pos _ (by decide)
  have hl : (i % 36).toNat < lettersS.cps.toList.length := by rw [letters_len]; omega
  unfold letN
  rw [List.getD_eq_getElem?_getD, List.getElem?_eq_getElem hl]
  exact List.getElem_mem hl
theorem letters_nd : lettersS.cps.toList.Nodup := by decide +kernel
theorem letN_inj {i j : Int} (h : letN i = letN j) : i % 36 = j % 36 := by
  have h0 : 0 ≤ i % 36 := Int.emod_nonneg _ (by decide)
  have h1 : i % 36 < 36 := Int.emod_lt_of_pos _ (by decide)
  have k0 : 0 ≤ j % 36 := Int.emod_nonneg _ (by decide)
  have k1 : j % 36 < 36 := Int.emod_lt_of_pos _ (by decide)
  have hl : (i % 36).toNat < lettersS.cps.toList.length := by rw [letters_len]; omega
  have kl : (j % 36).toNat < lettersS.cps.toList.length := by rw [letters_len]; omega
  unfold letN at h
  rw [List.getD_eq_getElem?_getD, List.getD_eq_getElem?_getD, List.getElem?_eq_getElem hl, List.getElem?_eq_getElem kl] at h
  have h : lettersS.cps.toList[(i % 36).toNat] = lettersS.cps.toList[(j % 36).toNat] := h
  have := (List.getElem_inj letters_nd).mp h
  omega
def aheadM (n : Int) : Str := Txt.join "" ((List.range (n / 36 % 3).toNat).map fun k : Nat => (⟨#[letN (n + 11 * k * k)]⟩ : Str))
def nameM (n : Int) (k : Nat) : Str := aheadM n ++ ⟨#[letN (n + 5 * k)]⟩
def namesM (n : Int) (many : Nat) : List Str := (List.range many).map (nameM n)
theorem join_ones (cs : List Nat) (h : cs.length ≤ 2) : Txt.join "" (cs.map fun c => (⟨#[c]⟩ : Str)) = SX.S cs := by
  have e : (cs.map fun c => (⟨#[c]⟩ : Str)) = (cs.map fun c => [c]).map SX.S := by rw [List.map_map]; rfl
  rw [e]
  have j := SX.join_S [] (cs.map fun c => [c])
  have e0 : (SX.S []) = ("" : Str) := by decide +kernel
  rw [e0] at j
  rw [j]
  match cs, h with
  | [], _ => rfl
  | [a], _ => rfl
  | [a, b], _ => rfl
theorem aheadM_eq (n : Int) : aheadM n = SX.S ((List.range (n / 36 % 3).toNat).map fun k : Nat => letN (n + 11 * k * k)) := by
  unfold aheadM
  have h1 : n / 36 % 3 < 3 := Int.emod_lt_of_pos _ (by decide)
  have := join_ones ((List.range (n / 36 % 3).toNat).map fun k : Nat => letN (n + 11 * k * k)) (by rw [List.length_map, List.length_range]; omega)
  rw [← this, List.map_map]
  rfl
theorem nameM_cps (n : Int) (k : Nat) : (nameM n k).cps.toList = ((List.range (n / 36 % 3).toNat).map fun k : Nat => letN (n + 11 * k * k)) ++ [letN (n + 5 * k)] := by
  unfold nameM
  rw [aheadM_eq]
  have := SX.S_cat ((List.range (n / 36 % 3).toNat).map fun k : Nat => letN (n + 11 * k * k)) [letN (n + 5 * k)]
  rw [show (⟨#[letN (n + 5 * k)]⟩ : Str) = SX.S [letN (n + 5 * k)] from rfl, this]
theorem nameM_ok (n : Int) (k : Nat) : IsNm (nameM n k) := by
  have h1 : n / 36 % 3 < 3 := Int.emod_lt_of_pos _ (by decide)
  have hc := nameM_cps n k
  have hl : (nameM n k).length = (nameM n k).cps.toList.length := by simp [Str.length]
  have hl2 : (nameM n k).cps.toList.length = (n / 36 % 3).toNat + 1 := by rw [hc]; simp
  refine ⟨by omega, by omega, fun c hcm => ?_⟩
  rw [hc] at hcm
  rcases List.mem_append.mp hcm with z | z
  · obtain ⟨j, _, rfl⟩ := List.mem_map.mp z
    exact letN_mem _
  · rw [List.mem_singleton.mp z]
    exact letN_mem _
theorem nameM_inj {n : Int} {j k : Nat} (hj : j < 36) (hk : k < 36) (h : nameM n j = nameM n k) : j = k := by
  have e : (nameM n j).cps.toList = (nameM n k).cps.toList := by rw [h]
  rw [nameM_cps, nameM_cps] at e
  have e := List.append_cancel_left e
  have := letN_inj (List.cons.inj e).1
  omega
theorem namesM_ok (n : Int) {many : Nat} (hm : many ≤ 36) : (∀ z ∈ namesM n many, IsNm z) ∧ (namesM n many).Nodup ∧ (namesM n many).length = many := by
  refine ⟨fun z hz => ?_, ?_, by unfold namesM; simp⟩
  · obtain ⟨k, _, rfl⟩ := List.mem_map.mp hz
    exact nameM_ok n k
  · unfold namesM
    refine List.pairwise_map.mpr ((List.nodup_range (n := many)).imp_of_mem fun {a b} ha hb hne z => hne (nameM_inj ?_ ?_ z))
    · have := List.mem_range.mp ha
      omega
    · have := List.mem_range.mp hb
      omega
/-- the names that a number picks -/
def pickM (ns : List Str) (v : Int) : List Str := ((List.range ns.length).filter fun k => decide (v / (2 ^ k : Nat) % 2 = 1)).map fun k => ns.getD k ""
def lotNM (ns : List Str) (v : Int) : List Str := sortS (pickM ns v)
theorem pickM_sub (ns : List Str) (v : Int) : ∀ z ∈ pickM ns v, z ∈ ns := fun z hz => by
  obtain ⟨k, hk, rfl⟩ := List.mem_map.mp hz
  have := List.mem_range.mp (List.mem_filter.mp hk).1
  rw [List.getD_eq_getElem?_getD, List.getElem?_eq_getElem this]
  exact List.getElem_mem this
theorem pickM_nd {ns : List Str} (nd : ns.Nodup) (v : Int) : (pickM ns v).Nodup := by
  unfold pickM
  refine List.pairwise_map.mpr (((List.nodup_range (n := ns.length)).filter _).imp_of_mem fun {a b} ha hb hne z => hne ?_)
  have ha := List.mem_range.mp (List.mem_filter.mp ha).1
  have hb := List.mem_range.mp (List.mem_filter.mp hb).1
  rw [List.getD_eq_getElem?_getD, List.getD_eq_getElem?_getD, List.getElem?_eq_getElem ha, List.getElem?_eq_getElem hb] at z
  exact (List.getElem_inj nd).mp z
theorem lotNM_lot {ns : List Str} (nd : ns.Nodup) (hn : ∀ z ∈ ns, IsNm z) (hf : ns.length ≤ 100) (v : Int) : LotOf (lotNM ns v) ns := by
  have sub : ∀ z ∈ lotNM ns v, z ∈ ns := fun z hz => pickM_sub ns v z ((sortS_perm _).mem_iff.mp hz)
  have asc : Asc (lotNM ns v) := sortS_asc (pickM_nd nd v)
  exact ⟨⟨fun z hz => hn z (sub z hz), asc, Nat.le_trans (sub_len asc.nodup sub) hf⟩, sub⟩
section
variable {P : Program} {w : World} {K : PySem.W.Frag} {mg : Str → Option Value} {base : Heap}
def T_names (ds : List D) (d : D) : Prop := ∃ n, ∃ many : Nat, 0 ≤ n ∧ many ≤ 36 ∧ ds = [.int n, .int many] ∧ d = eStrs (namesM n many)
theorem l_names {f : Addr} {fd : FuncData} (F : C8.Def K mg "_law_names" (top 48) f fd) (b : Binds K fd ["_law_number", "_law_many"] []) (B : Bt mg) : C8.Cal P w K mg base 1 "_law_names" (spP ⟨P, w, K⟩ T_names) [] := by
  have S : FnScope ["_law_number", "_law_many", "_law_letters", "_law_ahead", "_law_k"] ["_law_number", "_law_many"] (C8.fnScope (top 48)) := C8.fnScope_by (by decide +kernel)
  refine calP T_names F b S (fun ds d ⟨_, _, _, _, h, _⟩ => by rw [h]; rfl) (by decide) fun cdv A outer s H E hr ds d h => ?_
  obtain ⟨n, many, h0, hm, rfl, rfl⟩ := h
  have h3 : n / 36 % 3 < 3 := Int.emod_lt_of_pos _ (by decide)
  have h30 : 0 ≤ n / 36 % 3 := Int.emod_nonneg _ (by decide)
  have hll : lettersS.length ≤ 100000 := by decide +kernel
  refine sd_cons (ss_asg 2 (d := .str lettersS) ee_str ?_ S.nd)
  refine sd_cons (ss_asg 3 (d := .str (aheadM n)) (ee_join (ys := (List.range (n / 36 % 3).toNat).map fun k : Nat => (⟨#[letN (n + 11 * k * k)]⟩ : Str)) ee_str (EO.ee (EO.cast (eo_lc0 (own := [("_law_k", 4)]) (fun k : Nat => .int k) (fun k : Nat => .str ⟨#[letN (n + 11 * k * k)]⟩) (fun k => [(4, .int k)]) S.nd (blkOk_by (N := ["_law_number", "_law_many", "_law_letters", "_law_ahead", "_law_k"]) (sc := C8.fnScope (top 48)) (by decide +kernel)) (ei_rngI (n := n / 36 % 3) B.range (ee_mod (by decide) (ee_intI B.int (ee_fdiv ⟨by decide, by decide⟩ (ee_v 0 (.int n)) ee_int)) ee_int) (by omega) (by omega)) (by rw [List.length_range]; omega) (fun d hd s H C cl fp => gd_name 4 S.nd) (by simp) (fun k hk s H C cl fp => ?_)) (by rw [List.map_map]; rfl))) ?_) ?_ S.nd)
  · exact ee_ixS (i := (n + 11 * k * k) % 36) (ee_v 2 (.str lettersS)) (ee_mod (by decide) (ee_intI B.int (ee_add (ee_v 0 (.int n)) (ee_mul (.inl (by have := List.mem_range.mp hk; constructor <;> omega)) (ee_mul (.inl ⟨by decide, by decide⟩) ee_int (ee_v 4 (.int k))) (ee_v 4 (.int k))))) ee_int) hll (letN_at _)
  · rw [List.map_map, List.length_map, List.length_range]
    have : ∀ l : List Nat, (l.map ((·.length) ∘ fun k : Nat => (⟨#[letN (n + 11 * k * k)]⟩ : Str))).sum = l.length := fun l => by
      induction l with
      | nil => rfl
      | cons x r ih => rw [List.map_cons, List.sum_cons, ih, List.length_cons]; show 1 + _ = _; omega
    rw [this, List.length_range]
    show _ + _ * 0 ≤ _
    omega
  · have hal : (aheadM n).length ≤ 2 := by
      rw [aheadM_eq, SX.S_len, List.length_map, List.length_range]
      omega
    refine sd_cons (ss_ret (EE.cast (EO.ee (eo_lc0 (own := [("_law_k", 4)]) (fun k : Nat => .int k) (fun k : Nat => .str (nameM n k)) (fun k => [(4, .int k)]) S.nd (blkOk_by (N := ["_law_number", "_law_many", "_law_letters", "_law_ahead", "_law_k"]) (sc := C8.fnScope (top 48)) (by decide +kernel)) (ei_rng (n := many) B.range (ee_v 1 (.int many)) (by omega)) (by rw [List.length_range]; omega) (fun d hd s H C cl fp => gd_name 4 S.nd) (by simp) (fun k hk s H C cl fp => ee_addS (ee_v 3 (.str (aheadM n))) (ee_ixS (i := (n + 5 * k) % 36) (ee_v 2 (.str lettersS)) (ee_mod (by decide) (ee_intI B.int (ee_add (ee_v 0 (.int n)) (ee_mul (.inl ⟨by decide, by decide⟩) ee_int (ee_v 4 (.int k))))) ee_int) hll (letN_at _)) (by show (aheadM n).length + 1 ≤ _; omega)))) ?_) rfl)
    show D.lst _ = D.lst ((namesM n many).map .str)
    unfold namesM
    rw [List.map_map]
    rfl
def T_lot (ds : List D) (d : D) : Prop := ∃ ns : List Str, ∃ v : Int, (∀ z ∈ ns, IsNm z) ∧ ns.length ≤ 6 ∧ ds = [eStrs ns, .int v] ∧ d = eLot (lotNM ns v)
theorem l_lot {f : Addr} {fd : FuncData} (F : C8.Def K mg "_law_lot" (top 49) f fd) (b : Binds K fd ["_law_names_here", "_law_number"] []) (B : Bt mg) : C8.Cal P w K mg base 1 "_law_lot" (spP ⟨P, w, K⟩ T_lot) [] := by
  have S : FnScope ["_law_names_here", "_law_number", "_law_bits", "_law_k"] ["_law_names_here", "_law_number"] (C8.fnScope (top 49)) := C8.fnScope_by (by decide +kernel)
  refine calP T_lot F b S (fun ds d ⟨_, _, _, _, h, _⟩ => by rw [h]; rfl) (by decide) fun cdv A outer s H E hr ds d h => ?_
  obtain ⟨ns, v, hn, hl, rfl, rfl⟩ := h
  refine sd_cons (ss_asg 2 (d := .tup [.int 1, .int 2, .int 4, .int 8, .int 16, .int 32]) (ee_tup (ea_cons ee_int (ea_cons ee_int (ea_cons ee_int (ea_cons ee_int (ea_cons ee_int (ea_cons ee_int ea_nil))))))) ?_ S.nd)
  have bit : ∀ k : Nat, k < 6 → atI [D.int 1, .int 2, .int 4, .int 8, .int 16, .int 32] (k : Int) = some (.int ((2 ^ k : Nat) : Int)) := fun k hk => by
    match k, hk with
    | 0, _ => rfl
    | 1, _ => rfl
    | 2, _ => rfl
    | 3, _ => rfl
    | 4, _ => rfl
    | 5, _ => rfl
  have pos : ∀ k : Nat, k < 6 → CDiv v ((2 ^ k : Nat) : Int) := fun k hk => by
    match k, hk with
    | 0, _ => exact ⟨by decide, by decide⟩
    | 1, _ => exact ⟨by decide, by decide⟩
    | 2, _ => exact ⟨by decide, by decide⟩
    | 3, _ => exact ⟨by decide, by decide⟩
    | 4, _ => exact ⟨by decide, by decide⟩
    | 5, _ => exact ⟨by decide, by decide⟩
  refine sd_cons (ss_ret (ee_tupleL B.tuple (EO.ee (eo_sortS (xs := pickM ns v) B.sorted hr.units (EO.ee (EO.cast (eo_lc (own := [("_law_k", 3)]) (fun k : Nat => .int k) (fun k => decide (v / (2 ^ k : Nat) % 2 = 1)) (fun k : Nat => .str (ns.getD k "")) (fun k => [(3, .int k)]) S.nd (blkOk_by (N := ["_law_names_here", "_law_number", "_law_bits", "_law_k"]) (sc := C8.fnScope (top 49)) (by decide +kernel)) (ei_rng (n := ns.length) B.range (EE.cast (ee_lenL B.len (ee_v 0 (eStrs ns))) (by rw [List.length_map])) (by omega)) (by rw [List.length_range]; omega) (fun d hd s H C cl fp => gd_name 3 S.nd) (by simp) (fun k hk s H C cl fp => ?_) (fun k hk _ s H C cl fp => ?_)) ?_)) ?_))) rfl)
  · have hk := List.mem_range.mp hk
    exact ets_one (et_c2 cmp_eqI (ee_mod (by decide) (ee_intI B.int (ee_fdiv (pos k (by omega)) (ee_v 1 (.int v)) (ee_ixT (i := (k : Int)) (ee_v 2 (.tup [.int 1, .int 2, .int 4, .int 8, .int 16, .int 32])) (ee_v 3 (.int k)) (bit k (by omega))))) ee_int) ee_int)
  · have hk := List.mem_range.mp hk
    refine ee_ixL (i := (k : Int)) (ee_v 0 (eStrs ns)) (ee_v 3 (.int k)) (atI_nat ?_)
    rw [List.getElem?_map, List.getElem?_eq_getElem hk, List.getD_eq_getElem?_getD, List.getElem?_eq_getElem hk]
    rfl
  · unfold pickM
    rw [List.map_map]
    rfl
  · exact fun x hx => (hn x (pickM_sub ns v x hx)).ok
end
end Fw
namespace Fw
open PySem PySem.Spec PyProof.Rows L2
/-! ### effects that the law draws -/
def offM (ns : List Str) (on off : Int) : List Str := (lotNM ns off).filter fun h => !decide (h ∈ lotNM ns on)
theorem turnedNM {ns : List Str} (nd : ns.Nodup) (hn : ∀ z ∈ ns, IsNm z) (hf : ns.length ≤ 100) (on off : Int) : Turned (lotNM ns on) (offM ns on off) ns where
  von := lotNM_lot nd hn hf on
  voff := by
    have h := lotNM_lot nd hn hf off
    unfold offM
    exact ⟨⟨fun z hz => h.nm z (List.mem_filter.mp hz).1, List.Pairwise.sublist List.filter_sublist h.asc, Nat.le_trans (List.length_filter_le _ _) h.few⟩, fun z hz => h.sub z (List.mem_filter.mp hz).1⟩
  dj := fun x hx hxo => by
    unfold offM at hxo
    have := (List.mem_filter.mp hxo).2
    simp [hx] at this
def toM (ms : List Str) (v : Int) : Option Str := ((ms.map some ++ [none, none, none])[(v % ((ms.length : Int) + 3)).toNat]?).join
theorem toM_mem {ms : List Str} {v : Int} {x : Str} (h : toM ms v = some x) : x ∈ ms := by
  unfold toM at h
  cases e : (ms.map some ++ [none, none, none])[(v % ((ms.length : Int) + 3)).toNat]? with
  | none => rw [e] at h; cases h
  | some y =>
    rw [e] at h
    have h : y = some x := h
    subst h
    have := List.mem_of_getElem? e
    rcases List.mem_append.mp this with z | z
    · obtain ⟨w, hw, e⟩ := List.mem_map.mp z
      cases e
      exact hw
    · simp at z
def effOn (v : Int) : Int := v % 64 * (if v / 64 % 4 > 0 then 1 else 0)
section
variable {P : Program} {w : World} {K : PySem.W.Frag} {mg : Str → Option Value} {base : Heap}
def T_turnedL (ds : List D) (d : D) : Prop := ∃ ns : List Str, ∃ on off : Int, (∀ z ∈ ns, IsNm z) ∧ ns.Nodup ∧ ns.length ≤ 6 ∧ ds = [eStrs ns, .int on, .int off] ∧ d = .tup [eLot (lotNM ns on), eLot (offM ns on off)]
theorem l_turned {f : Addr} {fd : FuncData} (F : C8.Def K mg "_law_turned" (top 50) f fd) (b : Binds K fd ["_law_holds", "_law_on", "_law_off"] []) (B : Bt mg) (c1 : C8.Cal P w K mg base 1 "_law_lot" (spP ⟨P, w, K⟩ T_lot) []) : C8.Cal P w K mg base 2 "_law_turned" (spP ⟨P, w, K⟩ T_turnedL) [] := by
  have S : FnScope ["_law_holds", "_law_on", "_law_off", "_law_hold"] ["_law_holds", "_law_on", "_law_off"] (C8.fnScope (top 50)) := C8.fnScope_by (by decide +kernel)
  refine calP T_turnedL F b S (fun ds d ⟨_, _, _, _, _, _, h, _⟩ => by rw [h]; rfl) (by decide) fun cdv A outer s H E hr ds d h => ?_
  obtain ⟨ns, on, off, hn, nd, hl, rfl, rfl⟩ := h
  have h1 := lotNM_lot nd hn (by omega) off
  have h2 := h1.few
  refine sd_cons (ss_ret (ee_tup (ea_cons (ee_call c1 hr (by decide) (ea_cons (ee_v 0 (eStrs ns)) (ea_cons (ee_v 1 (.int on)) ea_nil)) ⟨ns, on, hn, hl, rfl, rfl⟩) (ea_cons (ee_tupleL B.tuple (EO.ee (eo_lc (own := [("_law_hold", 3)]) .str (fun h => !decide (h ∈ lotNM ns on)) .str (fun h => [(3, .str h)]) S.nd (blkOk_by (N := ["_law_holds", "_law_on", "_law_off", "_law_hold"]) (sc := C8.fnScope (top 50)) (by decide +kernel)) (ei_tup (ee_call c1 hr (by decide) (ea_cons (ee_v 0 (eStrs ns)) (ea_cons (ee_v 2 (.int off)) ea_nil)) ⟨ns, off, hn, hl, rfl, rfl⟩)) (by omega) (fun d hd s H C cl fp => gd_name 3 S.nd) (by simp) (fun d hd s H C cl fp => ets_one (et_c2 cmp_ninT (ee_v 3 (.str d)) (ee_call c1 hr (by decide) (ea_cons (ee_v 0 (eStrs ns)) (ea_cons (ee_v 1 (.int on)) ea_nil)) ⟨ns, on, hn, hl, rfl, rfl⟩))) (fun d hd _ s H C cl fp => ee_v 3 (.str d))))) ea_nil))) rfl)
def T_toL (ds : List D) (d : D) : Prop := ∃ ms : List Str, ∃ v : Int, ms.length ≤ 6 ∧ ds = [eStrs ms, .int v] ∧ d = eOpt (toM ms v)
theorem l_to {f : Addr} {fd : FuncData} (F : C8.Def K mg "_law_to" (top 51) f fd) (b : Binds K fd ["_law_modes", "_law_number"] []) (B : Bt mg) : C8.Cal P w K mg base 1 "_law_to" (spP ⟨P, w, K⟩ T_toL) [] := by
  have S : FnScope ["_law_modes", "_law_number"] ["_law_modes", "_law_number"] (C8.fnScope (top 51)) := C8.fnScope_by (by decide +kernel)
  refine calP T_toL F b S (fun ds d ⟨_, _, _, h, _⟩ => by rw [h]; rfl) (by decide) fun cdv A outer s H E hr ds d h => ?_
  obtain ⟨ms, v, hl, rfl, rfl⟩ := h
  have h0 : 0 ≤ v % ((ms.length : Int) + 3) := Int.emod_nonneg _ (by omega)
  have h1 : v % ((ms.length : Int) + 3) < (ms.length : Int) + 3 := Int.emod_lt_of_pos _ (by omega)
  refine sd_cons (ss_ret (ee_ixL (i := v % ((ms.length : Int) + 3)) (EO.ee (eo_cat (ee_v 0 (eStrs ms)) (EO.ee (eo_lst (ea_cons ee_non (ea_cons ee_non (ea_cons ee_non ea_nil))))) (by simp only [List.length_map, List.length_cons, List.length_nil]; omega))) (ee_mod (by omega) (ee_intI B.int (ee_v 1 (.int v))) (ee_add (EE.cast (ee_lenL B.len (ee_v 0 (eStrs ms))) (by rw [List.length_map])) ee_int)) ?_) rfl)
  obtain ⟨j, hj⟩ : ∃ j : Nat, v % ((ms.length : Int) + 3) = (j : Int) := ⟨(v % ((ms.length : Int) + 3)).toNat, by omega⟩
  unfold toM
  rw [hj, Int.toNat_natCast]
  have e : (ms.map D.str ++ [.non, .non, .non]) = (ms.map some ++ [none, none, none]).map eOpt := by
    rw [List.map_append, List.map_map]
    rfl
  have hjl : j < (ms.map some ++ [none, none, none] : List (Option Str)).length := by
    simp only [List.length_append, List.length_map, List.length_cons, List.length_nil]
    omega
  refine atI_nat ?_
  rw [e, List.getElem?_map, List.getElem?_eq_getElem hjl]
  rfl
def T_effL (ds : List D) (d : D) : Prop := ∃ ns ms : List Str, ∃ u v : Int, (∀ z ∈ ns, IsNm z) ∧ ns.Nodup ∧ ns.length ≤ 6 ∧ ms.length ≤ 6 ∧ ds = [eStrs ns, eStrs ms, .int u, .int v] ∧ d = .tup [eLot (lotNM ns (effOn u)), eLot (offM ns (effOn u) (v % 64)), eOpt (toM ms (v / 64))]
theorem l_effect {f : Addr} {fd : FuncData} (F : C8.Def K mg "_law_effect" (top 52) f fd) (b : Binds K fd ["_law_holds", "_law_modes", "_law_number", "_law_other"] []) (B : Bt mg) (c1 : C8.Cal P w K mg base 2 "_law_turned" (spP ⟨P, w, K⟩ T_turnedL) []) (c2 : C8.Cal P w K mg base 1 "_law_to" (spP ⟨P, w, K⟩ T_toL) []) : C8.Cal P w K mg base 3 "_law_effect" (spP ⟨P, w, K⟩ T_effL) [] := by
  have S : FnScope ["_law_holds", "_law_modes", "_law_number", "_law_other", "_law_on", "_law_off"] ["_law_holds", "_law_modes", "_law_number", "_law_other"] (C8.fnScope (top 52)) := C8.fnScope_by (by decide +kernel)
  refine calP T_effL F b S (fun ds d ⟨_, _, _, _, _, _, _, _, h, _⟩ => by rw [h]; rfl) (by decide) fun cdv A outer s H E hr ds d h => ?_
  obtain ⟨ns, ms, u, v, hn, nd, hl, hl2, rfl, rfl⟩ := h
  have hone : ∀ b : Bool, CMul (u % 64) (if b = true then 1 else 0) := fun b => by
    cases b
    · exact .inr ⟨by decide, by decide⟩
    · exact .inr ⟨by decide, by decide⟩
  refine sd_cons (ss_tup (ee_call c1 hr (by decide) (ea_cons (ee_v 0 (eStrs ns)) (ea_cons (EE.cast (ee_mul (hone _) (ee_mod (by decide) (ee_intI B.int (ee_v 2 (.int u))) ee_int) (ee_intB B.int (ee_c2 cmp_gt (ee_mod (by decide) (ee_intI B.int (ee_fdiv ⟨by decide, by decide⟩ (ee_v 2 (.int u)) ee_int)) ee_int) ee_int))) ?_) (ea_cons (ee_mod (by decide) (ee_intI B.int (ee_v 3 (.int v))) ee_int) ea_nil))) ⟨ns, effOn u, v % 64, hn, nd, hl, rfl, rfl⟩) (gd_tup (gds_cons (gd_name 4 S.nd) (gds_cons (gd_name 5 S.nd) gds_nil))) ?_)
  · unfold effOn
    by_cases h : u / 64 % 4 > 0
    · rw [if_pos h, decide_eq_true (show 0 < u / 64 % 4 from h)]
      rfl
    · rw [if_neg h, decide_eq_false (show ¬ 0 < u / 64 % 4 from h)]
      rfl
  · exact sd_cons (ss_ret (ee_tup (ea_cons (ee_v 4 (eLot (lotNM ns (effOn u)))) (ea_cons (ee_v 5 (eLot (offM ns (effOn u) (v % 64)))) (ea_cons (ee_call c2 hr (by decide) (ea_cons (ee_v 1 (eStrs ms)) (ea_cons (ee_fdiv ⟨by decide, by decide⟩ (ee_v 3 (.int v)) ee_int) ea_nil)) ⟨ms, v / 64, hl2, rfl, rfl⟩) ea_nil)))) rfl)
end
end Fw
namespace Fw
open PySem PySem.Spec PyProof.Rows L2
/-! ### the book that the law draws -/
section
variable (g : Nat → Int)
def holdsM : List Str := namesM (g 0) (1 + (g 1 % 3).toNat)
def namedM : List Str := namesM (g 2) (1 + (g 1 / 8 % 3).toNat)
def mOn (v : Int) : Int := v % 8 * (1 + 7 * (if v % 5 = 0 then 1 else 0))
def modeOf (k : Nat) : Mode := ⟨(namedM g).getD k "", lotNM (holdsM g) (mOn (g (3 + k))), offM (holdsM g) (mOn (g (3 + k))) (g (3 + k) / 8)⟩
def modesL : List Mode := (List.range (namedM g).length).map (modeOf g)
def cmdOf (j : Nat) : Cmd := ⟨nameM (g 8) j, lotNM (namedM g) (g (10 + 3 * j) % 32), lotNM (holdsM g) (effOn (g (11 + 3 * j))), offM (holdsM g) (effOn (g (11 + 3 * j))) (g (12 + 3 * j) % 64), toM (namedM g) (g (12 + 3 * j) / 64)⟩
def cmdsL : List Cmd := (List.range (g 9 % 4).toNat).map (cmdOf g)
def almOf (j : Nat) : Alm := ⟨nameM (g 34) j, lotNM (holdsM g) (effOn (g (35 + 2 * j))), offM (holdsM g) (effOn (g (35 + 2 * j))) (g (36 + 2 * j) % 64), toM (namedM g) (g (36 + 2 * j) / 64)⟩
def almsL : List Alm := (List.range (g 9 / 16 % 3).toNat).map (almOf g)
def stepOf (p i : Nat) : Int × Str := (1 + g (p + i) % 3, (((cmdsL g)[(g (p + i) / 9 % ((cmdsL g).length : Int)).toNat]?).map Cmd.nm).getD "")
def rowOf (j : Nat) : Row := ⟨nameM (g 43) j, (List.range (1 + (g (45 + 4 * j) / 64 % 4).toNat)).map (stepOf g (45 + 4 * j))⟩
def rowsL : List Row := if (cmdsL g).length = 0 then [] else (List.range (g 44 % 2).toNat).map (rowOf g)
def addBar (acc : List (List Str)) (l : List Str) : List (List Str) := if 1 < l.length ∧ l ∉ acc then acc ++ [l] else acc
def barredL : List (List Str) := (List.range (g 57 % 4).toNat).foldl (fun acc k => addBar acc (lotNM (holdsM g) (g (58 + k)))) []
def quietL : Option Int := if g 62 % 2 = 0 then none else some (1 + g 61 % 3)
def rawM : Book := ⟨holdsM g, modesL g, barredL g, cmdsL g, almsL g, rowsL g, quietL g⟩
end
theorem Rm.u65 {k : Nat} {A : Around} (r : Room k A) : A.units + 65 < cLine := by have := r.un; omega
theorem atG {ns : List Int} {j : Nat} {i : Int} (h : j < ns.length) (hi : i = (j : Int)) : atI (ns.map D.int) i = some (.int (ns.getD j 0)) := by
  rw [hi]
  refine atI_nat ?_
  rw [List.getElem?_map, List.getElem?_eq_getElem h, List.getD_eq_getElem?_getD, List.getElem?_eq_getElem h]
  rfl
def lbN : List Str := ["_law_numbers_here", "_law_at", "_law_sizes", "_law_holds", "_law_named", "_law_modes", "_law_k", "_law_first_here", "_law_on", "_law_off", "_law_commands", "_law_name", "_law_place", "_law_some", "_law_alarms", "_law_rows", "_law_steps", "_law_j", "_law_command_here", "_law_barred", "_law_lot_here", "_law_quiet"]
def szD : D := .tup [.int 3, .int 3, .int 3, .int 2, .int 1, .int 3, .int 3]
def bookFs (q : Addr) (b : Book) : List Fld := [.im (eStrs b.holds), .im (.lst (b.modes.map eMode)), .ow q (b.barred.map eLot), .im (.lst (b.cmds.map eCmd)), .im (.lst (b.alms.map eAlm)), .im (.lst (b.rows.map eRow)), .im (eOptI b.quiet)]
def gOf (ns : List Int) (j : Nat) : Int := ns.getD j 0
theorem lot_ok {l : List Str} (h : ∀ z ∈ l, PyData.strOk z = true) : D.ok 1 (eLot l) = true := by
  show D.oks 0 (l.map .str) = true
  rw [D.oks_all, List.all_eq_true]
  intro d hd
  obtain ⟨z, hz, rfl⟩ := List.mem_map.mp hd
  exact h z hz
theorem lots_ok {l : List (List Str)} (h : ∀ k ∈ l, ∀ z ∈ k, PyData.strOk z = true) : D.oks 1 (l.map eLot) = true := by
  rw [D.oks_all, List.all_eq_true]
  intro d hd
  obtain ⟨z, hz, rfl⟩ := List.mem_map.mp hd
  exact lot_ok (h z hz)
theorem map_str_inj : ∀ {a b : List Str}, a.map D.str = b.map D.str → a = b
  | [], [], _ => rfl
  | [], _ :: _, h => by cases h
  | _ :: _, [], h => by cases h
  | x :: a, y :: b, h => by
    rw [List.map_cons, List.map_cons, List.cons.injEq] at h
    rw [D.str.inj h.1, map_str_inj h.2]
theorem eLot_inj {a b : List Str} (h : eLot a = eLot b) : a = b := map_str_inj (D.tup.inj h)
theorem mem_lots {l : List Str} {ls : List (List Str)} : eLot l ∈ ls.map eLot ↔ l ∈ ls := by
  constructor
  · intro h
    obtain ⟨k, hk, e⟩ := List.mem_map.mp h
    rw [← eLot_inj e]
    exact hk
  · exact fun h => List.mem_map_of_mem h
theorem addBar_sub {acc : List (List Str)} {l : List Str} : ∀ k ∈ addBar acc l, k ∈ acc ∨ k = l := fun k hk => by
  unfold addBar at hk
  split at hk
  · rcases List.mem_append.mp hk with z | z
    · exact .inl z
    · exact .inr (List.mem_singleton.mp z)
  · exact .inl hk
theorem addBar_len (acc : List (List Str)) (l : List Str) : (addBar acc l).length ≤ acc.length + 1 := by
  unfold addBar
  split
  · simp
  · omega
section
variable {P : Program} {w : World} {K : PySem.W.Frag} {mg : Str → Option Value} {base : Heap}
def T_lbook (ds : List D) (R : List Fld → Prop) : Prop := ∃ ns : List Int, ns.length = 200 ∧ (∀ x ∈ ns, 0 ≤ x) ∧ ds = [eInts ns, .int 0, szD] ∧ R = fun fs => ∃ q, fs = bookFs q (rawM (gOf ns))
set_option maxHeartbeats 16000000 in
theorem l_book {f : Addr} {fd : FuncData} (F : C8.Def K mg "_law_book" (top 53) f fd) (b : Binds K fd ["_law_numbers_here", "_law_at", "_law_sizes"] []) (B : Bt mg) (cN : C8.Cal P w K mg base 1 "_law_names" (spP ⟨P, w, K⟩ T_names) []) (cL : C8.Cal P w K mg base 1 "_law_lot" (spP ⟨P, w, K⟩ T_lot) []) (cT : C8.Cal P w K mg base 2 "_law_turned" (spP ⟨P, w, K⟩ T_turnedL) []) (cE : C8.Cal P w K mg base 3 "_law_effect" (spP ⟨P, w, K⟩ T_effL) []) : C8.Cal P w K mg base 4 "_law_book" (spTp ⟨P, w, K⟩ T_lbook) [] := by
  have S : FnScope lbN ["_law_numbers_here", "_law_at", "_law_sizes"] (C8.fnScope (top 53)) := C8.fnScope_by (by decide +kernel)
  refine calTp T_lbook F b S (fun ds d ⟨_, _, _, h, _⟩ => by rw [h]; rfl) (by decide) fun cdv A outer s H E hr ds R h => ?_
  obtain ⟨ns, hl, h0, rfl, rfl⟩ := h
  have g0 : ∀ j, 0 ≤ gOf ns j := fun j => by
    unfold gOf
    rw [List.getD_eq_getElem?_getD]
    cases e : ns[j]? with
    | none => exact Int.le_refl _
    | some x => exact h0 x (List.mem_of_getElem? e)
  have m3 : ∀ v : Int, 0 ≤ v % 3 ∧ v % 3 < 3 := fun v => ⟨Int.emod_nonneg _ (by decide), Int.emod_lt_of_pos _ (by decide)⟩
  obtain ⟨nmH, ndH, lnH⟩ := namesM_ok (gOf ns 0) (many := 1 + (gOf ns 1 % 3).toNat) (by have := m3 (gOf ns 1); omega)
  obtain ⟨nmN, ndN, lnN⟩ := namesM_ok (gOf ns 2) (many := 1 + (gOf ns 1 / 8 % 3).toNat) (by have := m3 (gOf ns 1 / 8); omega)
  have lH : (holdsM (gOf ns)).length ≤ 3 := by
    unfold holdsM
    have := m3 (gOf ns 1)
    omega
  have lN : (namedM (gOf ns)).length ≤ 3 := by
    unfold namedM
    have := m3 (gOf ns 1 / 8)
    omega
  -- holds, named
  refine sd_cons (ss_asg 3 (d := eStrs (holdsM (gOf ns))) (ee_call cN hr (by decide) (ea_cons (ee_ixL (i := 0) (ee_v 0 (eInts ns)) (ee_v 1 (.int 0)) (atG (j := 0) (by omega) rfl)) (ea_cons (EE.cast (ee_add ee_int (ee_mod (j := 3) (by decide) (ee_intI B.int (ee_ixL (ee_v 0 (eInts ns)) (ee_add (ee_v 1 (.int 0)) ee_int) (atG (j := 1) (by omega) rfl))) (ee_ixT (i := 0) (ee_v 2 szD) ee_int rfl))) (show D.int (1 + gOf ns 1 % 3) = .int ((1 + (gOf ns 1 % 3).toNat : Nat) : Int) by have := m3 (gOf ns 1); congr 1; omega)) ea_nil)) ⟨gOf ns 0, _, g0 0, by have := m3 (gOf ns 1); omega, rfl, rfl⟩) ?_ S.nd)
  refine sd_cons (ss_asg 4 (d := eStrs (namedM (gOf ns))) (ee_call cN hr (by decide) (ea_cons (ee_ixL (ee_v 0 (eInts ns)) (ee_add (ee_v 1 (.int 0)) ee_int) (atG (j := 2) (by omega) rfl)) (ea_cons (EE.cast (ee_add ee_int (ee_mod (j := 3) (by decide) (ee_intI B.int (ee_fdiv ⟨by decide, by decide⟩ (ee_ixL (ee_v 0 (eInts ns)) (ee_add (ee_v 1 (.int 0)) ee_int) (atG (j := 1) (by omega) rfl)) ee_int)) (ee_ixT (i := 1) (ee_v 2 szD) ee_int rfl))) (show D.int (1 + gOf ns 1 / 8 % 3) = .int ((1 + (gOf ns 1 / 8 % 3).toNat : Nat) : Int) by have := m3 (gOf ns 1 / 8); congr 1; omega)) ea_nil)) ⟨gOf ns 2, _, g0 2, by have := m3 (gOf ns 1 / 8); omega, rfl, rfl⟩) ?_ S.nd)
  -- modes
  refine sd_cons (ss_asgO 5 (eo_lst ea_nil) (fun q5 => ?_) S.nd)
  refine sd_cons (ss_for (fun i : Nat => .int i) (fun m => [(6, .int m)]) (ei_rng (n := (namedM (gOf ns)).length) B.range (EE.cast (ee_lenL B.len (ee_v 4 (eStrs (namedM (gOf ns))))) (by rw [List.length_map])) (by omega)) (fun i ss' => ∃ x6 x7 x8 x9, ss' = [.im (eInts ns), .im (.int 0), .im szD, .im (eStrs (holdsM (gOf ns))), .im (eStrs (namedM (gOf ns))), .ow q5 (((List.range i).map (modeOf (gOf ns))).map eMode), x6, x7, x8, x9, .no, .no, .no, .no, .no, .no, .no, .no, .no, .no, .no, .no]) ⟨_, _, _, _, rfl⟩ ?_ ?_ ?_)
  · rintro i m ss' hm ⟨x6, x7, x8, x9, rfl⟩
    exact gd_name 6 S.nd
  · rintro i m ss' hm ⟨x6, x7, x8, x9, rfl⟩
    have hm2 : i < (namedM (gOf ns)).length ∧ m = i := by
      obtain ⟨h1, h2⟩ := List.getElem?_eq_some_iff.mp hm
      rw [List.length_range] at h1
      rw [List.getElem_range] at h2
      exact ⟨h1, h2.symm⟩
    obtain ⟨hi, rfl⟩ := hm2
    have hone : ∀ b : Bool, CMul 7 (if b = true then 1 else 0) := fun b => .inl ⟨by decide, by decide⟩
    refine sd_cons (ss_asg 7 (d := .int (gOf ns (3 + m))) (ee_intI B.int (ee_ixL (ee_v 0 (eInts ns)) (ee_add (ee_add (ee_v 1 (.int 0)) ee_int) (ee_v 6 (.int m))) (atG (j := 3 + m) (by omega) (by omega)))) ?_ S.nd)
    refine sd_cons (ss_tup (ee_call cT hr (by decide) (ea_cons (ee_v 3 (eStrs (holdsM (gOf ns)))) (ea_cons (EE.cast (ee_mul (i := gOf ns (3 + m) % 8) (.inl (by have h1 : 0 ≤ gOf ns (3 + m) % 8 := Int.emod_nonneg _ (by decide); have h2 : gOf ns (3 + m) % 8 < 8 := Int.emod_lt_of_pos _ (by decide); constructor <;> omega)) (ee_mod (by decide) (ee_intI B.int (ee_v 7 (.int (gOf ns (3 + m))))) ee_int) (ee_add ee_int (ee_mul (hone _) ee_int (ee_intB B.int (ee_c2 cmp_eqI (ee_mod (by decide) (ee_intI B.int (ee_v 7 (.int (gOf ns (3 + m))))) ee_int) ee_int))))) (show _ = D.int (mOn (gOf ns (3 + m))) by unfold mOn; simp only [decide_eq_true_eq])) (ea_cons (ee_fdiv ⟨by decide, by decide⟩ (ee_intI B.int (ee_v 7 (.int (gOf ns (3 + m))))) ee_int) ea_nil))) ⟨holdsM (gOf ns), _, _, nmH, ndH, by omega, rfl, rfl⟩) (gd_tup (gds_cons (gd_name 8 S.nd) (gds_cons (gd_name 9 S.nd) gds_nil))) ?_)
    refine sd_cons (ss_app 5 (q := q5) (d := eMode (modeOf (gOf ns) m)) rfl (ee_tup (ea_cons (ee_ixL (i := (m : Int)) (d := .str ((namedM (gOf ns)).getD m "")) (ee_v 4 (eStrs (namedM (gOf ns)))) (ee_v 6 (.int m)) (atI_nat (by rw [List.getElem?_map, List.getElem?_eq_getElem hi, List.getD_eq_getElem?_getD, List.getElem?_eq_getElem hi]; rfl))) (ea_cons (ee_v 8 (eLot (lotNM (holdsM (gOf ns)) (mOn (gOf ns (3 + m)))))) (ea_cons (ee_v 9 (eLot (offM (holdsM (gOf ns)) (mOn (gOf ns (3 + m))) (gOf ns (3 + m) / 8)))) ea_nil)))) (by simp only [List.length_map, List.length_range]; omega) (sd_nil ⟨.im (.int m), .im (.int (gOf ns (3 + m))), .im (eLot (lotNM (holdsM (gOf ns)) (mOn (gOf ns (3 + m))))), .im (eLot (offM (holdsM (gOf ns)) (mOn (gOf ns (3 + m))) (gOf ns (3 + m) / 8))), ?_⟩))
    rw [List.range_succ, List.map_append, List.map_append]
    rfl
  rintro ss' ⟨x6, x7, x8, x9, rfl⟩
  rw [List.length_range]
  refine sd_know 5 (p := q5) (ds := (modesL (gOf ns)).map eMode) rfl ?_
  -- commands
  have c9 : 0 ≤ gOf ns 9 % 4 ∧ gOf ns 9 % 4 < 4 := ⟨Int.emod_nonneg _ (by decide), Int.emod_lt_of_pos _ (by decide)⟩
  have ll := fun (v : Int) => lotNM_lot ndN nmN (by omega) v
  refine sd_cons (ss_asgO 10 (eo_lst ea_nil) (fun q10 => ?_) S.nd)
  refine sd_cons (ss_for .str (fun m => [(11, .str m)]) (ei_lst (ee_call cN hr (by decide) (ea_cons (ee_ixL (ee_v 0 (eInts ns)) (ee_add (ee_v 1 (.int 0)) ee_int) (atG (j := 8) (by omega) rfl)) (ea_cons (EE.cast (ee_mod (j := 4) (by decide) (ee_intI B.int (ee_ixL (ee_v 0 (eInts ns)) (ee_add (ee_v 1 (.int 0)) ee_int) (atG (j := 9) (by omega) rfl))) (EE.cast (ee_add (i := 3) (j := 1) (ee_ixT (i := 2) (ee_v 2 szD) ee_int rfl) ee_int) rfl)) (show D.int (gOf ns 9 % 4) = .int (((gOf ns 9 % 4).toNat : Nat) : Int) by congr 1; omega)) ea_nil)) ⟨gOf ns 8, _, g0 8, by omega, rfl, rfl⟩)) (fun i ss' => ∃ x11 x12 x13, ss' = [.im (eInts ns), .im (.int 0), .im szD, .im (eStrs (holdsM (gOf ns))), .im (eStrs (namedM (gOf ns))), .im (.lst ((modesL (gOf ns)).map eMode)), x6, x7, x8, x9, .ow q10 (((List.range i).map (cmdOf (gOf ns))).map eCmd), x11, x12, x13, .no, .no, .no, .no, .no, .no, .no, .no]) ⟨_, _, _, rfl⟩ ?_ ?_ ?_)
  · rintro i m ss' hm ⟨x11, x12, x13, rfl⟩
    exact gd_name 11 S.nd
  · rintro i m ss' hm ⟨x11, x12, x13, rfl⟩
    have hm2 : i < (gOf ns 9 % 4).toNat ∧ m = nameM (gOf ns 8) i := by
      unfold namesM at hm
      rw [List.getElem?_map] at hm
      obtain ⟨k, hk, rfl⟩ := Option.map_eq_some_iff.mp hm
      obtain ⟨h1, h2⟩ := List.getElem?_eq_some_iff.mp hk
      rw [List.length_range] at h1
      rw [List.getElem_range] at h2
      exact ⟨h1, by rw [h2]⟩
    obtain ⟨hi, rfl⟩ := hm2
    refine sd_cons (ss_asg 12 (d := .int ((10 + 3 * i : Nat) : Int)) (EE.cast (ee_add (ee_add (ee_v 1 (.int 0)) ee_int) (ee_mul (.inl ⟨by decide, by decide⟩) ee_int (ee_lenO 10 (q := q10) B.len rfl))) (by simp only [List.length_map, List.length_range]; congr 1)) ?_ S.nd)
    refine sd_cons (ss_asg 13 (d := eLot (lotNM (namedM (gOf ns)) (gOf ns (10 + 3 * i) % 32))) (ee_call cL hr (by decide) (ea_cons (ee_v 4 (eStrs (namedM (gOf ns)))) (ea_cons (ee_mod (by decide) (ee_intI B.int (ee_ixL (ee_v 0 (eInts ns)) (ee_v 12 (.int ((10 + 3 * i : Nat) : Int))) (atG (j := 10 + 3 * i) (by omega) rfl))) ee_int) ea_nil)) ⟨namedM (gOf ns), _, nmN, by omega, rfl, rfl⟩) ?_ S.nd)
    refine sd_cons (ss_app 10 (q := q10) (d := eCmd (cmdOf (gOf ns) i)) rfl (EE.cast (ee_catT (ds := [.str (nameM (gOf ns 8) i), eLot (lotNM (namedM (gOf ns)) (gOf ns (10 + 3 * i) % 32))]) (ee_tup (ea_cons (ee_v 11 (.str (nameM (gOf ns 8) i))) (ea_cons (ee_v 13 (eLot (lotNM (namedM (gOf ns)) (gOf ns (10 + 3 * i) % 32)))) ea_nil))) (ee_call cE hr (by decide) (ea_cons (ee_v 3 (eStrs (holdsM (gOf ns)))) (ea_cons (ee_v 4 (eStrs (namedM (gOf ns)))) (ea_cons (ee_ixL (ee_v 0 (eInts ns)) (ee_add (ee_v 12 (.int ((10 + 3 * i : Nat) : Int))) ee_int) (atG (j := 11 + 3 * i) (by omega) (by omega))) (ea_cons (ee_ixL (ee_v 0 (eInts ns)) (ee_add (ee_v 12 (.int ((10 + 3 * i : Nat) : Int))) ee_int) (atG (j := 12 + 3 * i) (by omega) (by omega))) ea_nil)))) ⟨holdsM (gOf ns), namedM (gOf ns), _, _, nmH, ndH, by omega, by omega, rfl, rfl⟩) (by simp)) rfl) (by simp only [List.length_map, List.length_range]; omega) (sd_nil ⟨.im (.str (nameM (gOf ns 8) i)), .im (.int ((10 + 3 * i : Nat) : Int)), .im (eLot (lotNM (namedM (gOf ns)) (gOf ns (10 + 3 * i) % 32))), ?_⟩))
    rw [List.range_succ, List.map_append, List.map_append]
    rfl
  rintro ss' ⟨x11, x12, x13, rfl⟩
  rw [show (namesM (gOf ns 8) (gOf ns 9 % 4).toNat).length = (gOf ns 9 % 4).toNat from (namesM_ok (gOf ns 8) (by omega)).2.2]
  refine sd_know 10 (p := q10) (ds := (cmdsL (gOf ns)).map eCmd) rfl ?_
  -- alarms
  have a9 : 0 ≤ gOf ns 9 / 16 % 3 ∧ gOf ns 9 / 16 % 3 < 3 := ⟨Int.emod_nonneg _ (by decide), Int.emod_lt_of_pos _ (by decide)⟩
  refine sd_cons (ss_asgO 14 (eo_lst ea_nil) (fun q14 => ?_) S.nd)
  refine sd_cons (ss_for .str (fun m => [(11, .str m)]) (ei_lst (ee_call cN hr (by decide) (ea_cons (ee_ixL (ee_v 0 (eInts ns)) (ee_add (ee_v 1 (.int 0)) ee_int) (atG (j := 34) (by omega) rfl)) (ea_cons (EE.cast (ee_mod (j := 3) (by decide) (ee_intI B.int (ee_fdiv ⟨by decide, by decide⟩ (ee_ixL (ee_v 0 (eInts ns)) (ee_add (ee_v 1 (.int 0)) ee_int) (atG (j := 9) (by omega) rfl)) ee_int)) (EE.cast (ee_add (i := 2) (j := 1) (ee_ixT (i := 3) (ee_v 2 szD) ee_int rfl) ee_int) rfl)) (show D.int (gOf ns 9 / 16 % 3) = .int (((gOf ns 9 / 16 % 3).toNat : Nat) : Int) by congr 1; omega)) ea_nil)) ⟨gOf ns 34, _, g0 34, by omega, rfl, rfl⟩)) (fun i ss' => ∃ x11 x12, ss' = [.im (eInts ns), .im (.int 0), .im szD, .im (eStrs (holdsM (gOf ns))), .im (eStrs (namedM (gOf ns))), .im (.lst ((modesL (gOf ns)).map eMode)), x6, x7, x8, x9, .im (.lst ((cmdsL (gOf ns)).map eCmd)), x11, x12, x13, .ow q14 (((List.range i).map (almOf (gOf ns))).map eAlm), .no, .no, .no, .no, .no, .no, .no]) ⟨_, _, rfl⟩ ?_ ?_ ?_)
  · rintro i m ss' hm ⟨x11, x12, rfl⟩
    exact gd_name 11 S.nd
  · rintro i m ss' hm ⟨x11, x12, rfl⟩
    have hm2 : i < (gOf ns 9 / 16 % 3).toNat ∧ m = nameM (gOf ns 34) i := by
      unfold namesM at hm
      rw [List.getElem?_map] at hm
      obtain ⟨k, hk, rfl⟩ := Option.map_eq_some_iff.mp hm
      obtain ⟨h1, h2⟩ := List.getElem?_eq_some_iff.mp hk
      rw [List.length_range] at h1
      rw [List.getElem_range] at h2
      exact ⟨h1, by rw [h2]⟩
    obtain ⟨hi, rfl⟩ := hm2
    refine sd_cons (ss_asg 12 (d := .int ((35 + 2 * i : Nat) : Int)) (EE.cast (ee_add (ee_add (ee_v 1 (.int 0)) ee_int) (ee_mul (.inl ⟨by decide, by decide⟩) ee_int (ee_lenO 14 (q := q14) B.len rfl))) (by simp only [List.length_map, List.length_range]; congr 1)) ?_ S.nd)
    refine sd_cons (ss_app 14 (q := q14) (d := eAlm (almOf (gOf ns) i)) rfl (EE.cast (ee_catT (ds := [.str (nameM (gOf ns 34) i)]) (ee_tup (ea_cons (ee_v 11 (.str (nameM (gOf ns 34) i))) ea_nil)) (ee_call cE hr (by decide) (ea_cons (ee_v 3 (eStrs (holdsM (gOf ns)))) (ea_cons (ee_v 4 (eStrs (namedM (gOf ns)))) (ea_cons (ee_ixL (ee_v 0 (eInts ns)) (ee_v 12 (.int ((35 + 2 * i : Nat) : Int))) (atG (j := 35 + 2 * i) (by omega) rfl)) (ea_cons (ee_ixL (ee_v 0 (eInts ns)) (ee_add (ee_v 12 (.int ((35 + 2 * i : Nat) : Int))) ee_int) (atG (j := 36 + 2 * i) (by omega) (by omega))) ea_nil)))) ⟨holdsM (gOf ns), namedM (gOf ns), _, _, nmH, ndH, by omega, by omega, rfl, rfl⟩) (by simp)) rfl) (by simp only [List.length_map, List.length_range]; omega) (sd_nil ⟨.im (.str (nameM (gOf ns 34) i)), .im (.int ((35 + 2 * i : Nat) : Int)), ?_⟩))
    rw [List.range_succ, List.map_append, List.map_append]
    rfl
  rintro ss' ⟨y11, y12, rfl⟩
  rw [show (namesM (gOf ns 34) (gOf ns 9 / 16 % 3).toNat).length = (gOf ns 9 / 16 % 3).toNat from (namesM_ok (gOf ns 34) (by omega)).2.2]
  refine sd_know 14 (p := q14) (ds := (almsL (gOf ns)).map eAlm) rfl ?_
  -- rows
  refine sd_cons (ss_asgO 15 (eo_lst ea_nil) (fun q15 => ?_) S.nd)
  have lC : (cmdsL (gOf ns)).length = (gOf ns 9 % 4).toNat := by unfold cmdsL; simp
  have fin : ∀ (z11 z12 z16 z17 z18 : Slot), SD (cxOf C8.CX0 P w K mg base lbN "_law_book" (C8.fnScope (top 53)) f cdv A outer s H E).nox [.im (eInts ns), .im (.int 0), .im szD, .im (eStrs (holdsM (gOf ns))), .im (eStrs (namedM (gOf ns))), .im (.lst ((modesL (gOf ns)).map eMode)), x6, x7, x8, x9, .im (.lst ((cmdsL (gOf ns)).map eCmd)), z11, z12, x13, .im (.lst ((almsL (gOf ns)).map eAlm)), .ow q15 ((rowsL (gOf ns)).map eRow), z16, z17, z18, .no, .no, .no] ((C8.fnBody (top 53)).drop 10) { nx := fun _ => False, rt := fun t _ => ∃ q fs, t = .tp q fs ∧ ∃ q, fs = bookFs q (rawM (gOf ns)) } := fun z11 z12 z16 z17 z18 => by
    refine sd_know 15 (p := q15) (ds := (rowsL (gOf ns)).map eRow) rfl ?_
    have c57 : 0 ≤ gOf ns 57 % 4 ∧ gOf ns 57 % 4 < 4 := ⟨Int.emod_nonneg _ (by decide), Int.emod_lt_of_pos _ (by decide)⟩
    have barLen : ∀ n, ((List.range n).foldl (fun acc k => addBar acc (lotNM (holdsM (gOf ns)) (gOf ns (58 + k)))) []).length ≤ n := fun n => by
      induction n with
      | zero => exact Nat.le_refl _
      | succ n ih =>
        rw [List.range_succ, List.foldl_append]
        exact Nat.le_trans (addBar_len _ _) (Nat.succ_le_succ ih)
    have barOk : ∀ n, ∀ k ∈ (List.range n).foldl (fun acc k => addBar acc (lotNM (holdsM (gOf ns)) (gOf ns (58 + k)))) [], ∀ z ∈ k, PyData.strOk z = true := fun n => by
      induction n with
      | zero => intro k hk; cases hk
      | succ n ih =>
        rw [List.range_succ, List.foldl_append]
        intro k hk
        rcases addBar_sub k hk with z | z
        · exact ih k z
        · rw [z]
          exact fun y hy => ((lotNM_lot ndH nmH (by omega) _).nm y hy).ok
    refine sd_cons (ss_asgO 19 (eo_lst ea_nil) (fun q19 => ?_) S.nd)
    refine sd_cons (ss_for (fun i : Nat => .int i) (fun m => [(6, .int m)]) (ei_rng (n := (gOf ns 57 % 4).toNat) B.range (EE.cast (ee_mod (by decide) (ee_intI B.int (ee_ixL (ee_v 0 (eInts ns)) (ee_add (ee_v 1 (.int 0)) ee_int) (atG (j := 57) (by omega) rfl))) ee_int) (show D.int (gOf ns 57 % 4) = _ by congr 1; omega)) (by omega)) (fun i ss' => ∃ x6 x20, ss' = [.im (eInts ns), .im (.int 0), .im szD, .im (eStrs (holdsM (gOf ns))), .im (eStrs (namedM (gOf ns))), .im (.lst ((modesL (gOf ns)).map eMode)), x6, x7, x8, x9, .im (.lst ((cmdsL (gOf ns)).map eCmd)), z11, z12, x13, .im (.lst ((almsL (gOf ns)).map eAlm)), .im (.lst ((rowsL (gOf ns)).map eRow)), z16, z17, z18, .ow q19 (((List.range i).foldl (fun acc k => addBar acc (lotNM (holdsM (gOf ns)) (gOf ns (58 + k)))) []).map eLot), x20, .no]) ⟨_, _, rfl⟩ ?_ ?_ ?_)
    · rintro i m ss' hm ⟨x6, x20, rfl⟩
      exact gd_name 6 S.nd
    · rintro i m ss' hm ⟨x6, x20, rfl⟩
      have hm2 : i < (gOf ns 57 % 4).toNat ∧ m = i := by
        obtain ⟨h1, h2⟩ := List.getElem?_eq_some_iff.mp hm
        rw [List.length_range] at h1
        rw [List.getElem_range] at h2
        exact ⟨h1, h2.symm⟩
      obtain ⟨hi, rfl⟩ := hm2
      have hbl := barLen m
      have hbo := barOk m
      rw [List.range_succ, List.foldl_append]
      generalize (List.range m).foldl (fun acc k => addBar acc (lotNM (holdsM (gOf ns)) (gOf ns (58 + k)))) [] = acc at hbl hbo
      have hlo : LotOf (lotNM (holdsM (gOf ns)) (gOf ns (58 + m))) (holdsM (gOf ns)) := lotNM_lot ndH nmH (by omega) (gOf ns (58 + m))
      refine sd_cons (ss_asg 20 (d := eLot (lotNM (holdsM (gOf ns)) (gOf ns (58 + m)))) (ee_call cL hr (by decide) (ea_cons (ee_v 3 (eStrs (holdsM (gOf ns)))) (ea_cons (ee_ixL (ee_v 0 (eInts ns)) (ee_add (ee_add (ee_v 1 (.int 0)) ee_int) (ee_v 6 (.int m))) (atG (j := 58 + m) (by omega) (by omega))) ea_nil)) ⟨holdsM (gOf ns), _, nmH, by omega, rfl, rfl⟩) ?_ S.nd)
      show SD _ _ _ { nx := fun ss' => ∃ x6 x20, ss' = [_, _, _, _, _, _, x6, _, _, _, _, _, _, _, _, _, _, _, _, .ow q19 ((addBar acc (lotNM (holdsM (gOf ns)) (gOf ns (58 + m)))).map eLot), x20, _], rt := _, bk := _, ct := _ }
      generalize lotNM (holdsM (gOf ns)) (gOf ns (58 + m)) = lt at hlo
      by_cases h : 1 < lt.length ∧ lt ∉ acc
      · rw [show addBar acc lt = acc ++ [lt] from if_pos h]
        refine sd_cons (ss_if (x := true) (et_w (EW.cast (ew_and (x := true) (y := true) (ET.cast (et_c2 cmp_gt (ee_lenT B.len (ee_v 20 (eLot lt))) ee_int) (by rw [List.length_map]; exact decide_eq_true (by omega))) fun _ => ew_and1 (ET.cast (et_ninO 19 (q := q19) (n := 1) (m := 1) (k := decide (lt ∈ acc)) (Rm.u65 hr) rfl (ee_v 20 (eLot lt)) (lot_ok fun z hz => (hlo.nm z hz).ok) (lots_ok hbo) (by decide) (by decide) (by rw [decide_eq_true_eq, mem_lots])) (by rw [decide_eq_false h.2]; rfl))) rfl)) (fun _ => ?_) fun h => nomatch h)
        refine sd_cons (ss_app 19 (q := q19) rfl (ee_v 20 (eLot lt)) (by rw [List.length_map]; omega) (sd_nil (sd_nil ⟨.im (.int m), .im (eLot lt), ?_⟩)))
        rw [List.map_append]
        rfl
      · rw [show addBar acc lt = acc from if_neg h]
        by_cases h1 : 1 < lt.length
        · have h2 : lt ∈ acc := Classical.not_not.mp fun z => h ⟨h1, z⟩
          refine sd_cons (ss_if (x := false) (et_w (EW.cast (ew_and (x := true) (y := false) (ET.cast (et_c2 cmp_gt (ee_lenT B.len (ee_v 20 (eLot lt))) ee_int) (by rw [List.length_map]; exact decide_eq_true (by omega))) fun _ => ew_and1 (ET.cast (et_ninO 19 (q := q19) (n := 1) (m := 1) (k := decide (lt ∈ acc)) (Rm.u65 hr) rfl (ee_v 20 (eLot lt)) (lot_ok fun z hz => (hlo.nm z hz).ok) (lots_ok hbo) (by decide) (by decide) (by rw [decide_eq_true_eq, mem_lots])) (by rw [decide_eq_true h2]; rfl))) rfl)) (fun h => nomatch h) fun _ => sd_nil (sd_nil ⟨.im (.int m), .im (eLot lt), rfl⟩))
        · refine sd_cons (ss_if (x := false) (et_w (EW.cast (ew_and (x := false) (y := false) (ET.cast (et_c2 cmp_gt (ee_lenT B.len (ee_v 20 (eLot lt))) ee_int) (by rw [List.length_map]; exact decide_eq_false (by omega))) fun h => nomatch h) rfl)) (fun h => nomatch h) fun _ => sd_nil (sd_nil ⟨.im (.int m), .im (eLot lt), rfl⟩))
    rintro ss' ⟨x6, x20, rfl⟩
    rw [List.length_range]
    have q62 : 0 ≤ gOf ns 62 % 2 ∧ gOf ns 62 % 2 < 2 := ⟨Int.emod_nonneg _ (by decide), Int.emod_lt_of_pos _ (by decide)⟩
    refine sd_cons (ss_asg 21 (d := eOptI (quietL (gOf ns))) (ee_ixL (i := gOf ns 62 % 2) (EO.ee (eo_lst (ea_cons ee_non (ea_cons (ee_add ee_int (ee_mod (j := 3) (by decide) (ee_intI B.int (ee_ixL (ee_v 0 (eInts ns)) (ee_add (ee_v 1 (.int 0)) ee_int) (atG (j := 61) (by omega) rfl))) (ee_ixT (i := 6) (ee_v 2 szD) ee_int rfl))) ea_nil)))) (ee_mod (by decide) (ee_intI B.int (ee_ixL (ee_v 0 (eInts ns)) (ee_add (ee_v 1 (.int 0)) ee_int) (atG (j := 62) (by omega) rfl))) ee_int) ?_) ?_ S.nd)
    · unfold quietL
      by_cases h : gOf ns 62 % 2 = 0
      · rw [if_pos h, h]
        rfl
      · rw [if_neg h, show gOf ns 62 % 2 = 1 by omega]
        rfl
    · exact sd_cons (ss_retTp 19 (q := q19) (fs := bookFs q19 (rawM (gOf ns))) rfl (eaf_im (ee_v 3 (eStrs (holdsM (gOf ns)))) (eaf_im (ee_v 5 (.lst ((modesL (gOf ns)).map eMode))) (eaf_ow 19 (by kernel_rfl!) (eaf_im (ee_v 10 (.lst ((cmdsL (gOf ns)).map eCmd))) (eaf_im (ee_v 14 (.lst ((almsL (gOf ns)).map eAlm))) (eaf_im (ee_v 15 (.lst ((rowsL (gOf ns)).map eRow))) (eaf_im (ee_v 21 (eOptI (quietL (gOf ns)))) eaf_nil))))))) rfl (by show 7 ≤ 100000; decide) fun p => ⟨p, _, rfl, q19, rfl⟩)
  by_cases hC : (cmdsL (gOf ns)).length = 0
  · have er : rowsL (gOf ns) = [] := by unfold rowsL; rw [if_pos hC]
    refine sd_cons (ss_if (x := false) (ET.cast (et_c2 cmp_gt (ee_lenL B.len (ee_v 10 (.lst ((cmdsL (gOf ns)).map eCmd)))) ee_int) (by rw [List.length_map, hC]; rfl)) (fun h => nomatch h) fun _ => sd_nil ?_)
    have := fin y11 y12 .no .no .no
    rw [er] at this
    exact this
  · have er : rowsL (gOf ns) = (List.range (gOf ns 44 % 2).toNat).map (rowOf (gOf ns)) := by unfold rowsL; rw [if_neg hC]
    have c44 : 0 ≤ gOf ns 44 % 2 ∧ gOf ns 44 % 2 < 2 := ⟨Int.emod_nonneg _ (by decide), Int.emod_lt_of_pos _ (by decide)⟩
    refine sd_cons (ss_if (x := true) (ET.cast (et_c2 cmp_gt (ee_lenL B.len (ee_v 10 (.lst ((cmdsL (gOf ns)).map eCmd)))) ee_int) (by rw [List.length_map]; exact decide_eq_true (by omega))) (fun _ => ?_) fun h => nomatch h)
    refine sd_cons (ss_for .str (fun m => [(11, .str m)]) (ei_lst (ee_call cN hr (by decide) (ea_cons (ee_ixL (ee_v 0 (eInts ns)) (ee_add (ee_v 1 (.int 0)) ee_int) (atG (j := 43) (by omega) rfl)) (ea_cons (EE.cast (ee_mod (j := 2) (by decide) (ee_intI B.int (ee_ixL (ee_v 0 (eInts ns)) (ee_add (ee_v 1 (.int 0)) ee_int) (atG (j := 44) (by omega) rfl))) (EE.cast (ee_add (i := 1) (j := 1) (ee_ixT (i := 4) (ee_v 2 szD) ee_int rfl) ee_int) rfl)) (show D.int (gOf ns 44 % 2) = .int (((gOf ns 44 % 2).toNat : Nat) : Int) by congr 1; omega)) ea_nil)) ⟨gOf ns 43, _, g0 43, by omega, rfl, rfl⟩)) (fun i ss' => ∃ x11 x12 x16 x17 x18, ss' = [.im (eInts ns), .im (.int 0), .im szD, .im (eStrs (holdsM (gOf ns))), .im (eStrs (namedM (gOf ns))), .im (.lst ((modesL (gOf ns)).map eMode)), x6, x7, x8, x9, .im (.lst ((cmdsL (gOf ns)).map eCmd)), x11, x12, x13, .im (.lst ((almsL (gOf ns)).map eAlm)), .ow q15 (((List.range i).map (rowOf (gOf ns))).map eRow), x16, x17, x18, .no, .no, .no]) ⟨_, _, _, _, _, rfl⟩ ?_ ?_ ?_)
    · rintro i m ss' hm ⟨x11, x12, x16, x17, x18, rfl⟩
      exact gd_name 11 S.nd
    · rintro i m ss' hm ⟨x11, x12, x16, x17, x18, rfl⟩
      have hm2 : i < (gOf ns 44 % 2).toNat ∧ m = nameM (gOf ns 43) i := by
        unfold namesM at hm
        rw [List.getElem?_map] at hm
        obtain ⟨k, hk, rfl⟩ := Option.map_eq_some_iff.mp hm
        obtain ⟨h1, h2⟩ := List.getElem?_eq_some_iff.mp hk
        rw [List.length_range] at h1
        rw [List.getElem_range] at h2
        exact ⟨h1, by rw [h2]⟩
      obtain ⟨hi, rfl⟩ := hm2
      have c64 : 0 ≤ gOf ns (45 + 4 * i) / 64 % 4 ∧ gOf ns (45 + 4 * i) / 64 % 4 < 4 := ⟨Int.emod_nonneg _ (by decide), Int.emod_lt_of_pos _ (by decide)⟩
      refine sd_cons (ss_asg 12 (d := .int ((45 + 4 * i : Nat) : Int)) (EE.cast (ee_add (ee_add (ee_v 1 (.int 0)) ee_int) (ee_mul (.inl ⟨by decide, by decide⟩) ee_int (ee_lenO 15 (q := q15) B.len rfl))) (by simp only [List.length_map, List.length_range]; congr 1)) ?_ S.nd)
      refine sd_cons (ss_asgO 16 (eo_lst ea_nil) (fun q16 => ?_) S.nd)
      refine sd_cons (ss_for (fun i : Nat => .int i) (fun m => [(17, .int m)]) (ei_rng (n := 1 + (gOf ns (45 + 4 * i) / 64 % 4).toNat) B.range (EE.cast (ee_add ee_int (ee_mod (by decide) (ee_fdiv ⟨by decide, by decide⟩ (ee_intI B.int (ee_ixL (ee_v 0 (eInts ns)) (ee_v 12 (.int ((45 + 4 * i : Nat) : Int))) (atG (j := 45 + 4 * i) (by omega) rfl))) ee_int) ee_int)) (show D.int (1 + gOf ns (45 + 4 * i) / 64 % 4) = _ by congr 1; omega)) (by omega)) (fun k ss' => ∃ x17 x18, ss' = [.im (eInts ns), .im (.int 0), .im szD, .im (eStrs (holdsM (gOf ns))), .im (eStrs (namedM (gOf ns))), .im (.lst ((modesL (gOf ns)).map eMode)), x6, x7, x8, x9, .im (.lst ((cmdsL (gOf ns)).map eCmd)), .im (.str (nameM (gOf ns 43) i)), .im (.int ((45 + 4 * i : Nat) : Int)), x13, .im (.lst ((almsL (gOf ns)).map eAlm)), .ow q15 (((List.range i).map (rowOf (gOf ns))).map eRow), .ow q16 (((List.range k).map (stepOf (gOf ns) (45 + 4 * i))).map eStep), x17, x18, .no, .no, .no]) ⟨_, _, rfl⟩ ?_ ?_ ?_)
      · rintro k m ss' hm ⟨x17, x18, rfl⟩
        exact gd_name 17 S.nd
      · rintro k m ss' hm ⟨x17, x18, rfl⟩
        have hm2 : k < 1 + (gOf ns (45 + 4 * i) / 64 % 4).toNat ∧ m = k := by
          obtain ⟨h1, h2⟩ := List.getElem?_eq_some_iff.mp hm
          rw [List.length_range] at h1
          rw [List.getElem_range] at h2
          exact ⟨h1, h2.symm⟩
        obtain ⟨hk, rfl⟩ := hm2
        have hm0 : 0 ≤ gOf ns (45 + 4 * i + m) / 9 % ((cmdsL (gOf ns)).length : Int) := Int.emod_nonneg _ (by omega)
        have hm1 : gOf ns (45 + 4 * i + m) / 9 % ((cmdsL (gOf ns)).length : Int) < ((cmdsL (gOf ns)).length : Int) := Int.emod_lt_of_pos _ (by omega)
        obtain ⟨j, hj⟩ : ∃ j : Nat, gOf ns (45 + 4 * i + m) / 9 % ((cmdsL (gOf ns)).length : Int) = (j : Int) := ⟨_, (Int.toNat_of_nonneg hm0).symm⟩
        have hjl : j < (cmdsL (gOf ns)).length := by omega
        refine sd_cons (ss_asg 18 (d := .str ((cmdsL (gOf ns))[j]).nm) (ee_ixT (i := 0) (ee_ixL (i := (j : Int)) (d := eCmd ((cmdsL (gOf ns))[j])) (ee_v 10 (.lst ((cmdsL (gOf ns)).map eCmd))) (EE.cast (ee_mod (j := ((cmdsL (gOf ns)).length : Int)) (by omega) (ee_intI B.int (ee_fdiv ⟨by decide, by decide⟩ (ee_ixL (ee_v 0 (eInts ns)) (ee_add (ee_v 12 (.int ((45 + 4 * i : Nat) : Int))) (ee_v 17 (.int m))) (atG (j := 45 + 4 * i + m) (by omega) (by omega))) ee_int)) (EE.cast (ee_lenL B.len (ee_v 10 (.lst ((cmdsL (gOf ns)).map eCmd)))) (by rw [List.length_map]))) (congrArg D.int hj)) (atI_nat (by rw [List.getElem?_map, List.getElem?_eq_getElem hjl]; rfl))) ee_int rfl) ?_ S.nd)
        refine sd_cons (ss_app 16 (q := q16) (d := eStep (stepOf (gOf ns) (45 + 4 * i) m)) rfl (EE.cast (ee_tup (ea_cons (ee_add ee_int (ee_mod (j := 3) (by decide) (ee_intI B.int (ee_ixL (ee_v 0 (eInts ns)) (ee_add (ee_v 12 (.int ((45 + 4 * i : Nat) : Int))) (ee_v 17 (.int m))) (atG (j := 45 + 4 * i + m) (by omega) (by omega)))) (ee_ixT (i := 5) (ee_v 2 szD) ee_int rfl))) (ea_cons (ee_v 18 (.str ((cmdsL (gOf ns))[j]).nm)) ea_nil))) ?_) (by simp only [List.length_map, List.length_range]; omega) (sd_nil ⟨.im (.int m), .im (.str ((cmdsL (gOf ns))[j]).nm), ?_⟩))
        · unfold stepOf eStep
          rw [hj, Int.toNat_natCast, List.getElem?_eq_getElem hjl]
          rfl
        · rw [List.range_succ, List.map_append, List.map_append]
          rfl
      · rintro ss' ⟨x17, x18, rfl⟩
        rw [List.length_range]
        refine sd_know 16 (p := q16) (ds := ((List.range (1 + (gOf ns (45 + 4 * i) / 64 % 4).toNat)).map (stepOf (gOf ns) (45 + 4 * i))).map eStep) rfl ?_
        refine sd_cons (ss_app 15 (q := q15) (d := eRow (rowOf (gOf ns) i)) rfl (ee_tup (ea_cons (ee_v 11 (.str (nameM (gOf ns 43) i))) (ea_cons (ee_tupleL B.tuple (ee_v 16 (.lst (((List.range (1 + (gOf ns (45 + 4 * i) / 64 % 4).toNat)).map (stepOf (gOf ns) (45 + 4 * i))).map eStep)))) ea_nil))) (by simp only [List.length_map, List.length_range]; omega) (sd_nil ⟨.im (.str (nameM (gOf ns 43) i)), .im (.int ((45 + 4 * i : Nat) : Int)), .im (.lst (((List.range (1 + (gOf ns (45 + 4 * i) / 64 % 4).toNat)).map (stepOf (gOf ns) (45 + 4 * i))).map eStep)), x17, x18, ?_⟩))
        rw [List.range_succ, List.map_append, List.map_append]
        rfl
    rintro ss' ⟨x11, x12, x16, x17, x18, rfl⟩
    rw [show (namesM (gOf ns 43) (gOf ns 44 % 2).toNat).length = (gOf ns 44 % 2).toNat from (namesM_ok (gOf ns 43) (by omega)).2.2]
    have := fin x11 x12 x16 x17 x18
    rw [er] at this
    exact sd_nil this
end
end Fw
namespace Fw
open PySem PySem.Spec PyProof.Rows L2
/-! ### the law's own reference -/
def partsL (b : Book) : D := .tup [eStrs b.holds, .lst (b.modes.map eMode), .lst (b.barred.map eLot), .lst (b.cmds.map eCmd), .lst (b.alms.map eAlm), .lst (b.rows.map eRow), eOptI b.quiet]
section
variable {P : Program} {w : World} {K : PySem.W.Frag} {mg : Str → Option Value} {base : Heap} {CB : Addr}
def T_change (ds : List D) (d : D) : Prop := ∃ l on off holds, (∀ z ∈ holds, IsNm z) ∧ holds.length ≤ 100 ∧ LotOf l holds ∧ Turned on off holds ∧ ds = [eLot l, eLot on, eLot off] ∧ d = eLot (turnedM l on off)
theorem change_eq {l on off : List Str} (h : l.Nodup) (h2 : on.Nodup) : sortS ((l.filter fun h => !decide (h ∈ off) && !decide (h ∈ on)) ++ on) = turnedM l on off := by
  refine asc_uniq (sortS_asc ?_) (setS_asc _) fun x => ?_
  · rw [List.nodup_append]
    refine ⟨h.filter _, h2, fun a ha b hb e => ?_⟩
    have := (List.mem_filter.mp ha).2
    rw [e] at this
    simp [hb] at this
  · refine Iff.trans ?_ (@turnedM_mem l on off x).symm
    rw [(sortS_perm _).mem_iff, List.mem_append, List.mem_filter]
    simp only [Bool.and_eq_true, Bool.not_eq_true', decide_eq_false_iff_not]
    constructor
    · rintro (⟨a, b, c⟩ | a)
      · exact .inl ⟨a, b⟩
      · exact .inr a
    · rintro (⟨a, b⟩ | a)
      · by_cases c : x ∈ on
        · exact .inr c
        · exact .inl ⟨a, b, c⟩
      · exact .inr a
theorem l_change {f : Addr} {fd : FuncData} (F : C8.Def K mg "_law_change" (top 55) f fd) (b : Binds K fd ["_law_lot_here", "_law_on", "_law_off"] []) (B : Bt mg) : C8.Cal P w K mg base 1 "_law_change" (spP ⟨P, w, K⟩ T_change) [] := by
  have S : FnScope ["_law_lot_here", "_law_on", "_law_off", "_law_hold"] ["_law_lot_here", "_law_on", "_law_off"] (C8.fnScope (top 55)) := C8.fnScope_by (by decide +kernel)
  refine calP T_change F b S (fun ds d ⟨_, _, _, _, _, _, _, _, h, _⟩ => by rw [h]; rfl) (by decide) fun cdv A outer s H E hr ds d h => ?_
  obtain ⟨l, on, off, holds, hn, hf, hl, ht, rfl, rfl⟩ := h
  have l1 := hl.few
  have l2 := ht.von.few
  have hx : ∀ x ∈ (l.filter fun h => !decide (h ∈ off) && !decide (h ∈ on)) ++ on, PyData.strOk x = true := fun x hx => by
    rcases List.mem_append.mp hx with z | z
    · exact (hl.nm x (List.mem_filter.mp z).1).ok
    · exact (ht.von.nm x z).ok
  refine sd_cons (ss_ret (ee_tupleL B.tuple (EO.ee (eo_sortS B.sorted hr.units (EO.ee (EO.cast (eo_cat (EO.ee (eo_lc (own := [("_law_hold", 3)]) .str (fun h => !decide (h ∈ off) && !decide (h ∈ on)) .str (fun d => [(3, .str d)]) S.nd (blkOk_by (N := ["_law_lot_here", "_law_on", "_law_off", "_law_hold"]) (sc := C8.fnScope (top 55)) (by decide +kernel)) (ei_tup (ee_v 0 (eLot l))) (by omega) (fun d hd s H C cl fp => gd_name 3 S.nd) (by simp) (fun d hd s H C cl fp => ets_one (et_w (ew_and (et_c2 cmp_ninT (ee_v 3 (.str d)) (ee_v 2 (eLot off))) fun _ => ew_and1 (et_c2 cmp_ninT (ee_v 3 (.str d)) (ee_v 1 (eLot on)))))) (fun d hd _ s H C cl fp => ee_v 3 (.str d)))) (EO.ee (eo_listT B.list (ee_v 1 (eLot on)))) ?_) (by rw [List.map_append]))) hx))) ?_)
  · have := List.length_filter_le (fun h => !decide (h ∈ off) && !decide (h ∈ on)) l
    simp only [List.length_map]
    omega
  · show Slot.im _ = Slot.im _
    rw [change_eq hl.asc.nodup ht.von.asc.nodup]
    rfl
end
end Fw
namespace Fw
open PySem PySem.Spec PyProof.Rows L2
section
variable {P : Program} {w : World} {K : PySem.W.Frag} {mg : Str → Option Value} {base : Heap} {CB : Addr}
def effdN : List Str := ["_law_parts", "_law_mode", "_law_lot_here", "_law_on", "_law_off", "_law_to_here", "_law_name", "_law_turns_on", "_law_turns_off"]
def T_effd (ds : List D) (d : D) : Prop := ∃ b mode l on off, ∃ to : Option Str, BOk b ∧ LotOf l b.holds ∧ Turned on off b.holds ∧ (∀ x, to = some x → x ∈ b.modes.map Mode.nm) ∧ ds = [partsL b, .str mode, eLot l, eLot on, eLot off, eOpt to] ∧ d = .tup [.str (to.getD mode), eLot (lotM b l on off to)]
theorem l_effected {f : Addr} {fd : FuncData} (F : C8.Def K mg "_law_effected" (top 56) f fd) (b : Binds K fd ["_law_parts", "_law_mode", "_law_lot_here", "_law_on", "_law_off", "_law_to_here"] []) (c1 : C8.Cal P w K mg base 1 "_law_change" (spP ⟨P, w, K⟩ T_change) []) : C8.Cal P w K mg base 2 "_law_effected" (spP ⟨P, w, K⟩ T_effd) [] := by
  have S : FnScope effdN ["_law_parts", "_law_mode", "_law_lot_here", "_law_on", "_law_off", "_law_to_here"] (C8.fnScope (top 56)) := C8.fnScope_by (by decide +kernel)
  refine calP T_effd F b S (fun ds d ⟨_, _, _, _, _, _, _, _, _, _, h, _⟩ => by rw [h]; rfl) (by decide) fun cdv A outer s H E hr ds d h => ?_
  obtain ⟨bk, mode, l, on, off, to, hb, hl, ht, hto, rfl, rfl⟩ := h
  have hl1 := turnedM_lot hb.hn hb.hf hl ht
  refine sd_cons (ss_asg 2 (d := eLot (turnedM l on off)) (ee_call c1 hr (by decide) (ea_cons (ee_v 2 (eLot l)) (ea_cons (ee_v 3 (eLot on)) (ea_cons (ee_v 4 (eLot off)) ea_nil))) ⟨l, on, off, bk.holds, hb.hn, hb.hf, hl, ht, rfl, rfl⟩) ?_ S.nd)
  refine sd_cons (ss_for eMode (fun m => [(6, .str m.nm), (7, eLot m.von), (8, eLot m.voff)]) (ei_lst (ee_ixT (i := 1) (ee_v 0 (partsL bk)) ee_int rfl)) (fun i ss' => ∃ x6 x7 x8, (∀ m ∈ bk.modes.take i, to ≠ some m.nm) ∧ ss' = [.im (partsL bk), .im (.str mode), .im (eLot (turnedM l on off)), .im (eLot on), .im (eLot off), .im (eOpt to), x6, x7, x8]) ⟨_, _, _, (fun m h => by simp at h), rfl⟩ ?_ ?_ ?_)
  · rintro i m ss' hm ⟨x6, x7, x8, hno, rfl⟩
    exact gd_tup (gds_cons (gd_name 6 S.nd) (gds_cons (gd_name 7 S.nd) (gds_cons (gd_name 8 S.nd) gds_nil)))
  · rintro i m ss' hm ⟨x6, x7, x8, hno, rfl⟩
    have hmm : m ∈ bk.modes := List.mem_of_getElem? hm
    by_cases e : to = some m.nm
    · subst e
      have hf : bk.mode? m.nm = some m := find_take hm (fun y hy => by
        rw [decide_eq_false_iff_not]
        exact fun z => hno y hy (by rw [z])) (by simp)
      refine sd_cons (ss_if (x := true) (ET.cast (et_c2 cmp_eqS (ee_v 6 (.str m.nm)) (ee_v 5 (.str m.nm))) (by simp)) (fun _ => ?_) fun h => nomatch h)
      refine sd_cons (ss_ret (ee_tup (ea_cons (ee_v 6 (.str m.nm)) (ea_cons (ee_call c1 hr (by decide) (ea_cons (ee_v 2 (eLot (turnedM l on off))) (ea_cons (ee_v 7 (eLot m.von)) (ea_cons (ee_v 8 (eLot m.voff)) ea_nil))) ⟨_, m.von, m.voff, bk.holds, hb.hn, hb.hf, hl1, (hb.mt m hmm).2, rfl, rfl⟩) ea_nil))) ?_)
      show Slot.im _ = Slot.im _
      unfold lotM
      simp only [Option.bind, hf]
      rfl
    · refine sd_cons (ss_if (x := false) ?_ (fun h => nomatch h) fun _ => sd_nil (sd_nil ⟨_, _, _, fun y hy => ?_, rfl⟩))
      · cases to with
        | none => exact et_c2 cmp_eqSN (ee_v 6 (.str m.nm)) (ee_v 5 .non)
        | some x => exact ET.cast (et_c2 cmp_eqS (ee_v 6 (.str m.nm)) (ee_v 5 (.str x))) (by rw [decide_eq_false]; exact fun z => e (by rw [z]))
      · rw [take_snoc hm] at hy
        rcases List.mem_append.mp hy with z | z
        · exact hno y z
        · rw [List.mem_singleton.mp z]
          exact e
  · rintro ss' ⟨x6, x7, x8, hno, rfl⟩
    rw [List.take_length] at hno
    cases to with
    | none => exact sd_cons (ss_ret (ee_tup (ea_cons (ee_v 1 (.str mode)) (ea_cons (ee_v 2 (eLot (turnedM l on off))) ea_nil))) rfl)
    | some x =>
      obtain ⟨m, hm, e⟩ := List.mem_map.mp (hto x rfl)
      exact absurd (by rw [e]) (hno m hm)
end
end Fw
namespace Fw
open PySem PySem.Spec PyProof.Rows L2
section
variable {P : Program} {w : World} {K : PySem.W.Frag} {mg : Str → Option Value} {base : Heap} {CB : Addr}
def T_made (CB : Addr) (ds : List D) (d : D) : Prop := ∃ b, BRaw b ∧ ds = [partsL b] ∧ d = dBook CB (normB b)
theorem l_made {f : Addr} {fd : FuncData} (F : C8.Def K mg "_law_made" (top 54) f fd) (b : Binds K fd ["_law_parts"] []) (B : Bt mg) (cB : C8.Mak P w K mg base 6 "Book" CB (spI ⟨P, w, K⟩ CB T_Book) []) : C8.Cal P w K mg base 8 "_law_made" (spP ⟨P, w, K⟩ (T_made CB)) [] := by
  have S : FnScope ["_law_parts", "_law_holds", "_law_modes", "_law_barred", "_law_commands", "_law_alarms", "_law_rows", "_law_quiet"] ["_law_parts"] (C8.fnScope (top 54)) := C8.fnScope_by (by decide +kernel)
  refine calP (T_made CB) F b S (fun ds d ⟨_, _, h, _⟩ => by rw [h]; rfl) (by decide) fun cdv A outer s H E hr ds d h => ?_
  obtain ⟨bk, hb, rfl, rfl⟩ := h
  refine sd_cons (ss_tup (ee_v 0 (partsL bk)) (gd_tup (gds_cons (gd_name 1 S.nd) (gds_cons (gd_name 2 S.nd) (gds_cons (gd_name 3 S.nd) (gds_cons (gd_name 4 S.nd) (gds_cons (gd_name 5 S.nd) (gds_cons (gd_name 6 S.nd) (gds_cons (gd_name 7 S.nd) gds_nil)))))))) ?_)
  exact sd_cons (ss_ret (ee_make cB hr (by decide) (ea_cons (EO.ee (eo_listL B.list (ee_v 1 (eStrs bk.holds)))) (ea_cons (EO.ee (eo_listL B.list (ee_v 2 (.lst (bk.modes.map eMode))))) (ea_cons (EO.ee (eo_listL B.list (ee_v 3 (.lst (bk.barred.map eLot))))) (ea_cons (EO.ee (eo_listL B.list (ee_v 4 (.lst (bk.cmds.map eCmd))))) (ea_cons (EO.ee (eo_listL B.list (ee_v 5 (.lst (bk.alms.map eAlm))))) (ea_cons (EO.ee (eo_listL B.list (ee_v 6 (.lst (bk.rows.map eRow))))) (ea_cons (ee_v 7 (eOptI bk.quiet)) ea_nil))))))) ⟨bk, hb, rfl, rfl⟩ (fun fs h => by rw [h]; rfl)) rfl)
def T_firstL (ds : List D) (d : D) : Prop := ∃ b, BOk b ∧ ds = [partsL b] ∧ d = eStg (firstM b)
theorem l_first {f : Addr} {fd : FuncData} (F : C8.Def K mg "_law_first" (top 57) f fd) (b : Binds K fd ["_law_parts"] []) (B : Bt mg) : C8.Cal P w K mg base 1 "_law_first" (spP ⟨P, w, K⟩ T_firstL) [] := by
  have S : FnScope ["_law_parts", "_law_name", "_law_on", "_law_off"] ["_law_parts"] (C8.fnScope (top 57)) := C8.fnScope_by (by decide +kernel)
  refine calP T_firstL F b S (fun ds d ⟨_, _, h, _⟩ => by rw [h]; rfl) (by decide) fun cdv A outer s H E hr ds d h => ?_
  obtain ⟨bk, hb, rfl, rfl⟩ := h
  cases e : bk.modes with
  | nil => exact absurd e hb.m0
  | cons m r =>
    have hm := hb.mt m (by rw [e]; exact List.mem_cons_self)
    have hf := hm.2.von.few
    refine sd_cons (ss_tup (ee_ixL (i := 0) (d := eMode m) (ee_ixT (i := 1) (d := .lst (bk.modes.map eMode)) (ee_v 0 (partsL bk)) ee_int rfl) ee_int (by rw [e]; exact (atI_nat (j := 0) rfl))) (gd_tup (gds_cons (gd_name 1 S.nd) (gds_cons (gd_name 2 S.nd) (gds_cons (gd_name 3 S.nd) gds_nil)))) ?_)
    refine sd_cons (ss_ret (ee_tup (ea_cons (ee_v 1 (.str m.nm)) (ea_cons (ee_tupleL B.tuple (EO.ee (eo_sortT B.sorted hr.units (ee_v 2 (eLot m.von)) (fun x hx => (hm.2.von.nm x hx).ok) (by omega)))) (ea_cons ee_non (ea_cons ee_int (ea_cons ee_int (ea_cons ee_int ea_nil))))))) ?_)
    show Slot.im _ = Slot.im (eStg (firstM bk))
    unfold firstM
    rw [e]
    rfl
def T_stepsL (ds : List D) (d : D) : Prop := ∃ b r v, BOk b ∧ Book.row? b r = some v ∧ ds = [partsL b, .str r] ∧ d = .tup (v.steps.map eStep)
theorem l_steps {f : Addr} {fd : FuncData} (F : C8.Def K mg "_law_steps_of" (top 58) f fd) (b : Binds K fd ["_law_parts", "_law_row_here"] []) : C8.Cal P w K mg base 1 "_law_steps_of" (spP ⟨P, w, K⟩ T_stepsL) [] := by
  have S : FnScope ["_law_parts", "_law_row_here", "_law_name", "_law_steps"] ["_law_parts", "_law_row_here"] (C8.fnScope (top 58)) := C8.fnScope_by (by decide +kernel)
  refine calP T_stepsL F b S (fun ds d ⟨_, _, _, _, _, h, _⟩ => by rw [h]; rfl) (by decide) fun cdv A outer s H E hr ds d h => ?_
  obtain ⟨bk, r, v, hb, hv, rfl, rfl⟩ := h
  have := hb.rf
  have hat : atI ((bk.rows.filter fun q => decide (q.nm = r)).map fun q => D.tup (q.steps.map eStep)) 0 = some (.tup (v.steps.map eStep)) := by
    have h0 : (bk.rows.filter fun q => decide (q.nm = r))[0]? = some v := by
      rw [← List.head?_eq_getElem?, List.head?_filter]
      exact hv
    exact atI_nat (j := 0) (by rw [List.getElem?_map, h0]; rfl)
  exact sd_cons (ss_ret (ee_ixL (i := 0) (EO.ee (eo_lc (own := [("_law_name", 2), ("_law_steps", 3)]) eRow (fun q => decide (q.nm = r)) (fun q => .tup (q.steps.map eStep)) (fun d => [(2, .str d.nm), (3, .tup (d.steps.map eStep))]) S.nd (blkOk_by (N := ["_law_parts", "_law_row_here", "_law_name", "_law_steps"]) (sc := C8.fnScope (top 58)) (by decide +kernel)) (ei_lst (ee_ixT (i := 5) (ee_v 0 (partsL bk)) ee_int rfl)) (by omega) (fun d hd s H C cl fp => gd_tup (gds_cons (gd_name 2 S.nd) (gds_cons (gd_name 3 S.nd) gds_nil))) (by simp) (fun d hd s H C cl fp => ets_one (et_c2 cmp_eqS (ee_v 2 (.str d.nm)) (ee_v 1 (.str r)))) (fun d hd _ s H C cl fp => ee_v 3 (.tup (d.steps.map eStep))))) ee_int hat) rfl)
/-- the command that takes effect in a mode -/
def coM (b : Book) (mode name : Str) : Option Cmd := (b.cmd? name).bind fun c => if mode ∈ c.ms then some c else none
def eCo : Option Cmd → D
  | none => .non
  | some c => .tup [eLot c.von, eLot c.voff, eOpt c.to]
theorem find_nodup {α : Type} {f : α → Str} : ∀ {l : List α} {c : α}, (l.map f).Nodup → c ∈ l → l.find? (fun m => decide (f m = f c)) = some c
  | [], _, _, h => by cases h
  | a :: l, c, nd, h => by
    rw [List.map_cons, List.nodup_cons] at nd
    rw [List.find?_cons]
    by_cases e : f a = f c
    · rw [decide_eq_true e]
      rcases List.mem_cons.mp h with z | z
      · rw [z]
      · exact absurd (by rw [e]; exact List.mem_map_of_mem z) nd.1
    · rw [decide_eq_false e]
      rcases List.mem_cons.mp h with z | z
      · exact absurd (by rw [z]) e
      · exact find_nodup nd.2 z
def T_coL (ds : List D) (d : D) : Prop := ∃ b mode name, BOk b ∧ ds = [partsL b, .str mode, .str name] ∧ d = eCo (coM b mode name)
theorem l_command {f : Addr} {fd : FuncData} (F : C8.Def K mg "_law_command" (top 59) f fd) (b : Binds K fd ["_law_parts", "_law_mode", "_law_name"] []) : C8.Cal P w K mg base 1 "_law_command" (spP ⟨P, w, K⟩ T_coL) [] := by
  have S : FnScope ["_law_parts", "_law_mode", "_law_name", "_law_one", "_law_modes", "_law_on", "_law_off", "_law_to_here"] ["_law_parts", "_law_mode", "_law_name"] (C8.fnScope (top 59)) := C8.fnScope_by (by decide +kernel)
  refine calP T_coL F b S (fun ds d ⟨_, _, _, _, h, _⟩ => by rw [h]; rfl) (by decide) fun cdv A outer s H E hr ds d h => ?_
  obtain ⟨bk, mode, name, hb, rfl, rfl⟩ := h
  refine sd_cons (ss_for eCmd (fun c => [(3, .str c.nm), (4, eLot c.ms), (5, eLot c.von), (6, eLot c.voff), (7, eOpt c.to)]) (ei_lst (ee_ixT (i := 3) (ee_v 0 (partsL bk)) ee_int rfl)) (fun i ss' => ∃ x3 x4 x5 x6 x7, (∀ c ∈ bk.cmds.take i, ¬ (c.nm = name ∧ mode ∈ c.ms)) ∧ ss' = [.im (partsL bk), .im (.str mode), .im (.str name), x3, x4, x5, x6, x7]) ⟨_, _, _, _, _, (fun m h => by simp at h), rfl⟩ ?_ ?_ ?_)
  · rintro i c ss' hm ⟨x3, x4, x5, x6, x7, hno, rfl⟩
    exact gd_tup (gds_cons (gd_name 3 S.nd) (gds_cons (gd_name 4 S.nd) (gds_cons (gd_name 5 S.nd) (gds_cons (gd_name 6 S.nd) (gds_cons (gd_name 7 S.nd) gds_nil)))))
  · rintro i c ss' hm ⟨x3, x4, x5, x6, x7, hno, rfl⟩
    have hcm : c ∈ bk.cmds := List.mem_of_getElem? hm
    by_cases e : c.nm = name ∧ mode ∈ c.ms
    · obtain ⟨e1, e2⟩ := e
      refine sd_cons (ss_if (x := true) (et_w (EW.cast (ew_and (x := true) (y := true) (ET.cast (et_c2 cmp_eqS (ee_v 3 (.str c.nm)) (ee_v 2 (.str name))) (decide_eq_true e1)) fun _ => ew_and1 (ET.cast (et_c2 cmp_inT (ee_v 1 (.str mode)) (ee_v 4 (eLot c.ms))) (decide_eq_true e2))) rfl)) (fun _ => ?_) fun h => nomatch h)
      refine sd_cons (ss_ret (ee_tup (ea_cons (ee_v 5 (eLot c.von)) (ea_cons (ee_v 6 (eLot c.voff)) (ea_cons (ee_v 7 (eOpt c.to)) ea_nil)))) ?_)
      show Slot.im _ = Slot.im _
      unfold coM Book.cmd?
      rw [← e1, find_nodup hb.cn hcm, Option.bind_some, if_pos e2]
      rfl
    · refine sd_cons (ss_if (x := false) (et_w (EW.cast (ew_and (x := decide (c.nm = name)) (y := decide (mode ∈ c.ms)) (et_c2 cmp_eqS (ee_v 3 (.str c.nm)) (ee_v 2 (.str name))) fun _ => ew_and1 (et_c2 cmp_inT (ee_v 1 (.str mode)) (ee_v 4 (eLot c.ms)))) (by rw [← Bool.decide_and]; exact decide_eq_false e))) (fun h => nomatch h) fun _ => sd_nil (sd_nil ⟨_, _, _, _, _, fun y hy => ?_, rfl⟩))
      rw [take_snoc hm] at hy
      rcases List.mem_append.mp hy with z | z
      · exact hno y z
      · rw [List.mem_singleton.mp z]
        exact e
  · rintro ss' ⟨x3, x4, x5, x6, x7, hno, rfl⟩
    rw [List.take_length] at hno
    refine sd_cons (ss_ret ee_non ?_)
    show Slot.im _ = Slot.im _
    unfold coM
    cases h : bk.cmd? name with
    | none => rfl
    | some c =>
      obtain ⟨h1, h2⟩ := cmd?_some h
      rw [Option.bind_some, if_neg fun z => hno c h1 ⟨h2, z⟩]
      rfl
end
end Fw
namespace Fw
open PySem PySem.Spec PyProof.Rows L2
section
variable {P : Program} {w : World} {K : PySem.W.Frag} {mg : Str → Option Value} {base : Heap} {CB : Addr}
def eRun (s : Stg) : D := .tup [eOpt s.row, .int s.place, .int s.left]
def tFs (p1 p2 p3 : Addr) (t : TSt) : List Fld := [.ow p1 (t.done.map .str), .ow p2 (t.refused.map .str), .ow p3 (t.mom.map eLot)]
def T_runL (ds : List D) (fs : List Fld) (d : D) (fs' : List Fld) : Prop := ∃ b t r p1 p2 p3, BOk b ∧ SOk b t.s ∧ t.s.row = some r ∧ 1 ≤ t.s.left ∧ t.done.length ≤ 1000 ∧ t.mom.length ≤ 1000 ∧ ds = [partsL b, .str t.s.mode, eLot t.s.lot, eRun t.s] ∧ fs = tFs p1 p2 p3 t ∧ d = .tup [.str (goM b t).s.mode, eLot (goM b t).s.lot, eRun (goM b t).s] ∧ fs' = tFs p1 p2 p3 (goM b t)
def runN : List Str := ["_law_parts", "_law_mode", "_law_lot_here", "_law_run", "_law_told_here", "_law_row_here", "_law_place", "_law_left", "_law_steps", "_law_effect_here"]
theorem l_running {f : Addr} {fd : FuncData} (F : C8.Def K mg "_law_running" (top 60) f fd) (b : Binds K fd ["_law_parts", "_law_mode", "_law_lot_here", "_law_run", "_law_told_here"] []) (B : Bt mg) (c1 : C8.Cal P w K mg base 1 "_law_steps_of" (spP ⟨P, w, K⟩ T_stepsL) []) (c2 : C8.Cal P w K mg base 1 "_law_command" (spP ⟨P, w, K⟩ T_coL) []) (c3 : C8.Cal P w K mg base 2 "_law_effected" (spP ⟨P, w, K⟩ T_effd) []) : C8.Cal P w K mg base 3 "_law_running" (spT ⟨P, w, K⟩ T_runL) [] := by
  have S : FnScope runN ["_law_parts", "_law_mode", "_law_lot_here", "_law_run", "_law_told_here"] (C8.fnScope (top 60)) := C8.fnScope_by (by decide +kernel)
  refine calT T_runL F b S (fun ds fs d fs' ⟨_, _, _, _, _, _, _, _, _, _, _, _, h, _⟩ => by rw [h]; rfl) (by decide) fun cdv A outer s H E hr q ds fs d fs' h => ?_
  obtain ⟨bk, ⟨⟨mode, lot, row, place, left, sil⟩, done, refused, mom⟩, r, p1, p2, p3, hb, hs, hrow, hleft, hd1, hd2, rfl, rfl, rfl, rfl⟩ := h
  have hrow : row = some r := hrow
  subst hrow
  have hleft : 1 ≤ left := hleft
  have hd1 : done.length ≤ 1000 := hd1
  have hd2 : mom.length ≤ 1000 := hd2
  have hlot : LotOf lot bk.holds := hs.lt
  obtain ⟨v, hv, hp⟩ := hs.rw1 r rfl
  have hp : place < v.steps.length := hp
  have hvm := row?_some hv
  obtain ⟨_, _, hv100, hvs⟩ := hb.rs v hvm.1
  obtain ⟨st, hst⟩ : ∃ st, v.steps[place]? = some st := ⟨_, List.getElem?_eq_getElem hp⟩
  have hst4 := hvs st (List.mem_of_getElem? hst)
  refine sd_cons (ss_tup (ee_v 3 (.tup [.str r, .int place, .int left])) (gd_tup (gds_cons (gd_name 5 S.nd) (gds_cons (gd_name 6 S.nd) (gds_cons (gd_name 7 S.nd) gds_nil)))) ?_)
  by_cases hl : 1 < left
  · refine sd_cons (ss_if (x := true) (ET.cast (et_c2 cmp_gt (ee_v 7 (.int left)) ee_int) (decide_eq_true hl)) (fun _ => ?_) fun h => nomatch h)
    refine sd_cons (ss_ret (ee_tup (ea_cons (ee_v 1 (.str mode)) (ea_cons (ee_v 2 (eLot lot)) (ea_cons (ee_tup (ea_cons (ee_v 5 (.str r)) (ea_cons (ee_v 6 (.int place)) (ea_cons (ee_sub (ee_v 7 (.int left)) ee_int) ea_nil)))) ea_nil)))) ?_)
    have e : goM bk ⟨⟨mode, lot, some r, place, left, sil⟩, done, refused, mom⟩ = ⟨⟨mode, lot, some r, place, left - 1, sil⟩, done, refused, mom⟩ := by
      show (if left - 1 = 0 then _ else _) = _
      rw [if_neg (by omega)]
    rw [e]
    exact ⟨rfl, rfl⟩
  · have hl1 : left = 1 := by omega
    subst hl1
    refine sd_cons (ss_if (x := false) (ET.cast (et_c2 cmp_gt (ee_v 7 (.int 1)) ee_int) (by decide)) (fun h => nomatch h) fun _ => sd_nil ?_)
    refine sd_cons (ss_asg 8 (d := .tup (v.steps.map eStep)) (ee_call c1 hr (by decide) (ea_cons (ee_v 0 (partsL bk)) (ea_cons (ee_v 5 (.str r)) ea_nil)) ⟨bk, r, v, hb, hv, rfl, rfl⟩) ?_ S.nd)
    refine sd_cons (ss_asg 9 (d := eCo (coM bk mode st.2)) (ee_call c2 hr (by decide) (ea_cons (ee_v 0 (partsL bk)) (ea_cons (ee_v 1 (.str mode)) (ea_cons (ee_ixT (i := 1) (ee_ixT (i := (place : Int)) (d := eStep st) (ee_v 8 (.tup (v.steps.map eStep))) (ee_v 6 (.int place)) (atI_nat (by rw [List.getElem?_map, hst]; rfl))) ee_int rfl) ea_nil))) ⟨bk, mode, st.2, hb, rfl, rfl⟩) ?_ S.nd)
    have fin : ∀ (mode' : Str) (lot' : List Str) (done' refused' : List Str) (mom' : List (List Str)) x3 x7 x9, SD (cxOf C8.CX0 P w K mg base runN "_law_running" (C8.fnScope (top 60)) f cdv A outer s H E).nox [.im (partsL bk), .im (.str mode'), .im (eLot lot'), x3, .tp q (tFs p1 p2 p3 ⟨⟨mode', lot', none, 0, 0, sil⟩, done', refused', mom'⟩), .im (.str r), .im (.int place), x7, .im (.tup (v.steps.map eStep)), x9] ((C8.fnBody (top 60)).drop 5)
        { nx := fun ss' => D.tup [.str (beginM bk ⟨⟨mode', lot', some r, place, 0, sil⟩, done', refused', mom'⟩ r (place + 1)).s.mode, eLot (beginM bk ⟨⟨mode', lot', some r, place, 0, sil⟩, done', refused', mom'⟩ r (place + 1)).s.lot, eRun (beginM bk ⟨⟨mode', lot', some r, place, 0, sil⟩, done', refused', mom'⟩ r (place + 1)).s] = .non ∧ ss'[4]? = some (.tp q (tFs p1 p2 p3 (beginM bk ⟨⟨mode', lot', some r, place, 0, sil⟩, done', refused', mom'⟩ r (place + 1)))),
          rt := fun t ss' => t = .im (.tup [.str (beginM bk ⟨⟨mode', lot', some r, place, 0, sil⟩, done', refused', mom'⟩ r (place + 1)).s.mode, eLot (beginM bk ⟨⟨mode', lot', some r, place, 0, sil⟩, done', refused', mom'⟩ r (place + 1)).s.lot, eRun (beginM bk ⟨⟨mode', lot', some r, place, 0, sil⟩, done', refused', mom'⟩ r (place + 1)).s]) ∧ ss'[4]? = some (.tp q (tFs p1 p2 p3 (beginM bk ⟨⟨mode', lot', some r, place, 0, sil⟩, done', refused', mom'⟩ r (place + 1)))) } := by
      intro mode' lot' done' refused' mom' x3 x7 x9
      by_cases hn : place + 1 < v.steps.length
      · obtain ⟨s2, hs2⟩ : ∃ s2, v.steps[place + 1]? = some s2 := ⟨_, List.getElem?_eq_getElem hn⟩
        have e : beginM bk ⟨⟨mode', lot', some r, place, 0, sil⟩, done', refused', mom'⟩ r (place + 1) = ⟨⟨mode', lot', some r, place + 1, s2.1, sil⟩, done', refused', mom'⟩ := by
          unfold beginM
          rw [hv, Option.bind_some, hs2]
        rw [e]
        refine sd_cons (ss_if (x := true) (ET.cast (et_c2 cmp_lt (ee_add (ee_v 6 (.int place)) ee_int) (ee_lenT B.len (ee_v 8 (.tup (v.steps.map eStep))))) (decide_eq_true (by rw [List.length_map]; omega))) (fun _ => ?_) fun h => nomatch h)
        exact sd_cons (ss_ret (ee_tup (ea_cons (ee_v 1 (.str mode')) (ea_cons (ee_v 2 (eLot lot')) (ea_cons (ee_tup (ea_cons (ee_v 5 (.str r)) (ea_cons (ee_add (ee_v 6 (.int place)) ee_int) (ea_cons (ee_ixT (i := 0) (ee_ixT (i := (place : Int) + 1) (d := eStep s2) (ee_v 8 (.tup (v.steps.map eStep))) (ee_add (ee_v 6 (.int place)) ee_int) (atI_nat (j := place + 1) (by rw [List.getElem?_map, hs2]; rfl))) ee_int rfl) ea_nil)))) ea_nil)))) ⟨rfl, rfl⟩)
      · have e : beginM bk ⟨⟨mode', lot', some r, place, 0, sil⟩, done', refused', mom'⟩ r (place + 1) = ⟨⟨mode', lot', none, 0, 0, sil⟩, done', refused', mom'⟩ := by
          unfold beginM
          rw [hv, Option.bind_some, List.getElem?_eq_none (by omega)]
          rfl
        rw [e]
        refine sd_cons (ss_if (x := false) (ET.cast (et_c2 cmp_lt (ee_add (ee_v 6 (.int place)) ee_int) (ee_lenT B.len (ee_v 8 (.tup (v.steps.map eStep))))) (decide_eq_false (by rw [List.length_map]; omega))) (fun h => nomatch h) fun _ => sd_nil ?_)
        exact sd_cons (ss_ret (ee_tup (ea_cons (ee_v 1 (.str mode')) (ea_cons (ee_v 2 (eLot lot')) (ea_cons (ee_tup (ea_cons ee_non (ea_cons ee_int (ea_cons ee_int ea_nil)))) ea_nil)))) ⟨rfl, rfl⟩)
    have eg : goM bk ⟨⟨mode, lot, some r, place, 1, sil⟩, done, refused, mom⟩ = beginM bk (cmdM bk ⟨⟨mode, lot, some r, place, 0, sil⟩, done, refused, mom⟩ st.2).2 r (place + 1) := by
      show (if (1 : Int) - 1 = 0 then (match (bk.row? r).bind fun w => w.steps[place]? with | none => (⟨⟨mode, lot, some r, place, 1, sil⟩, done, refused, mom⟩ : TSt) | some st => beginM bk (cmdM bk ⟨⟨mode, lot, some r, place, 1 - 1, sil⟩, done, refused, mom⟩ st.2).2 r (place + 1)) else ⟨⟨mode, lot, some r, place, 1 - 1, sil⟩, done, refused, mom⟩) = _
      rw [if_pos (by decide), hv, Option.bind_some, hst]
      rfl
    rw [eg]
    cases hc : coM bk mode st.2 with
    | none =>
      have ec : (cmdM bk ⟨⟨mode, lot, some r, place, 0, sil⟩, done, refused, mom⟩ st.2).2 = ⟨⟨mode, lot, some r, place, 0, sil⟩, done, refused, mom⟩ := by
        unfold coM at hc
        unfold cmdM
        cases h : bk.cmd? st.2 with
        | none => rfl
        | some c =>
          rw [h, Option.bind_some] at hc
          by_cases hm : mode ∈ c.ms
          · rw [if_pos hm] at hc
            cases hc
          · show (if mode ∈ c.ms then _ else _ : Bool × TSt).2 = _
            rw [if_neg hm]
      rw [ec]
      refine sd_cons (ss_if (x := false) (ET.cast (et_c2 (cmp_notN (d := .non)) (ee_v 9 .non) ee_non) rfl) (fun h => nomatch h) fun _ => sd_nil ?_)
      exact fin mode lot done refused mom _ _ _
    | some c =>
      obtain ⟨hc1, hc2⟩ : bk.cmd? st.2 = some c ∧ mode ∈ c.ms := by
        unfold coM at hc
        cases h : bk.cmd? st.2 with
        | none => rw [h] at hc; cases hc
        | some c' =>
          rw [h, Option.bind_some] at hc
          by_cases hm : mode ∈ c'.ms
          · rw [if_pos hm] at hc
            cases hc
            exact ⟨rfl, hm⟩
          · rw [if_neg hm] at hc
            cases hc
      have ec : (cmdM bk ⟨⟨mode, lot, some r, place, 0, sil⟩, done, refused, mom⟩ st.2).2 = ⟨⟨c.to.getD mode, lotM bk lot c.von c.voff c.to, some r, place, 0, sil⟩, done ++ [st.2], refused, mom ++ [lotM bk lot c.von c.voff c.to]⟩ := by
        unfold cmdM
        rw [hc1]
        show (if mode ∈ c.ms then _ else _ : Bool × TSt).2 = _
        rw [if_pos hc2]
        rfl
      rw [ec]
      obtain ⟨_, ct1, ct2, _⟩ := hb.ct c (cmd?_some hc1).1
      refine sd_cons (ss_if (x := true) (ET.cast (et_c2 (cmp_notN (d := eCo (some c))) (ee_v 9 (eCo (some c))) ee_non) rfl) (fun _ => ?_) fun h => nomatch h)
      refine sd_cons (ss_tup (ee_call c3 hr (by decide) (ea_cons (ee_v 0 (partsL bk)) (ea_cons (ee_v 1 (.str mode)) (ea_cons (ee_v 2 (eLot lot)) (ea_cons (ee_ixT (i := 0) (d := eLot c.von) (ee_v 9 (eCo (some c))) ee_int rfl) (ea_cons (ee_ixT (i := 1) (d := eLot c.voff) (ee_v 9 (eCo (some c))) ee_int rfl) (ea_cons (ee_ixT (i := 2) (d := eOpt c.to) (ee_v 9 (eCo (some c))) ee_int rfl) ea_nil)))))) ⟨bk, mode, lot, c.von, c.voff, c.to, hb, hlot, ct1, ct2, rfl, rfl⟩) (gd_tup (gds_cons (gd_name 1 S.nd) (gds_cons (gd_name 2 S.nd) gds_nil))) ?_)
      refine sd_cons (ss_appTp 4 0 (q := q) (l := p1) rfl rfl ee_int (ee_ixT (i := 1) (d := .str st.2) (ee_ixT (i := (place : Int)) (d := eStep st) (ee_v 8 (.tup (v.steps.map eStep))) (ee_v 6 (.int place)) (atI_nat (by rw [List.getElem?_map, hst]; rfl))) ee_int rfl) (by rw [List.length_map]; omega) ?_)
      refine sd_cons (ss_appTp 4 2 (q := q) (l := p3) rfl rfl ee_int (ee_v 2 (eLot (lotM bk lot c.von c.voff c.to))) (by rw [List.length_map]; omega) (sd_nil ?_))
      have := fin (c.to.getD mode) (lotM bk lot c.von c.voff c.to) (done ++ [st.2]) refused (mom ++ [lotM bk lot c.von c.voff c.to]) (.im (.tup [.str r, .int place, .int 1])) (.im (.int 1)) (.im (eCo (some c)))
      unfold tFs at this ⊢
      simp only [List.map_append] at this
      exact this
end
end Fw
namespace Fw
open PySem PySem.Spec PyProof.Rows L2
/-- a standing as it is behind a tick -/
structure LOk (b : Book) (s : Stg) : Prop extends SOk b s where
  l1 : ∀ r, s.row = some r → 1 ≤ s.left
  s0 : b.quiet = none → s.sil = 0
theorem beginM_l1 {b : Book} (hb : BOk b) (t : TSt) (x : Str) (p : Nat) : ∀ r, (beginM b t x p).s.row = some r → 1 ≤ (beginM b t x p).s.left := by
  intro r h
  unfold beginM at h ⊢
  split at h
  · cases h
  · rename_i st e
    rw [Option.bind_eq_some_iff] at e
    obtain ⟨v, e1, e2⟩ := e
    exact ((hb.rs v (row?_some e1).1).2.2.2 st (List.mem_of_getElem? e2)).1
theorem beginM_sil (b : Book) (t : TSt) (x : Str) (p : Nat) : (beginM b t x p).s.sil = t.s.sil := by
  unfold beginM
  split <;> rfl
theorem cmdM_sil (b : Book) (t : TSt) (x : Str) : (cmdM b t x).2.s.sil = t.s.sil := by
  unfold cmdM
  split
  · rfl
  · split <;> rfl
theorem cmdM_run (b : Book) (t : TSt) (x : Str) : (cmdM b t x).2.s.row = t.s.row ∧ (cmdM b t x).2.s.place = t.s.place ∧ (cmdM b t x).2.s.left = t.s.left := by
  unfold cmdM
  split
  · exact ⟨rfl, rfl, rfl⟩
  · split <;> exact ⟨rfl, rfl, rfl⟩
theorem goM_l1 {b : Book} (hb : BOk b) {t : TSt} (h : ∀ r, t.s.row = some r → 1 ≤ t.s.left) : ∀ r, (goM b t).s.row = some r → 1 ≤ (goM b t).s.left := by
  unfold goM
  split
  · exact h
  · rename_i r e
    have h1 := h r e
    split
    · split
      · exact h
      · exact beginM_l1 hb _ _ _
    · intro _ _
      show 1 ≤ t.s.left - 1
      omega
theorem goM_sil (b : Book) (t : TSt) : (goM b t).s.sil = t.s.sil := by
  unfold goM
  split
  · rfl
  · split
    · split
      · rfl
      · rw [beginM_sil, cmdM_sil]
    · rfl
theorem ans1_l {b : Book} (alms : List Str) (t : TSt) (a : Alm) (h : ∀ r, t.s.row = some r → 1 ≤ t.s.left) : (∀ r, (ans1 b alms t a).s.row = some r → 1 ≤ (ans1 b alms t a).s.left) ∧ (ans1 b alms t a).s.sil = t.s.sil ∧ (ans1 b alms t a).mom.length ≤ t.mom.length + 1 ∧ (ans1 b alms t a).done = t.done ∧ (ans1 b alms t a).refused = t.refused := by
  unfold ans1
  split
  · exact ⟨fun _ h => (nomatch h), rfl, by show (t.mom ++ [_]).length ≤ _; rw [List.length_append, List.length_singleton]; exact Nat.le_refl _, rfl, rfl⟩
  · exact ⟨h, rfl, Nat.le_succ _, rfl, rfl⟩
theorem ansF_more {b : Book} (hb : BOk b) (alms : List Str) : ∀ (l : List Alm) (t : TSt), (∀ a ∈ l, a ∈ b.alms) → SOk b t.s → (∀ r, t.s.row = some r → 1 ≤ t.s.left) → SOk b (l.foldl (ans1 b alms) t).s ∧ (∀ r, (l.foldl (ans1 b alms) t).s.row = some r → 1 ≤ (l.foldl (ans1 b alms) t).s.left) ∧ (l.foldl (ans1 b alms) t).s.sil = t.s.sil ∧ (l.foldl (ans1 b alms) t).mom.length ≤ t.mom.length + l.length ∧ (l.foldl (ans1 b alms) t).done = t.done ∧ (l.foldl (ans1 b alms) t).refused = t.refused
  | [], t, _, h, h1 => ⟨h, h1, rfl, Nat.le_refl _, rfl, rfl⟩
  | a :: l, t, hl, h, h1 => by
    have g := ans1_ok hb h alms (hl a List.mem_cons_self)
    obtain ⟨g1, g2, g3, g4, g5⟩ := ans1_l (b := b) alms t a h1
    obtain ⟨k0, k1, k2, k3, k4, k5⟩ := ansF_more hb alms l (ans1 b alms t a) (fun x hx => hl x (List.mem_cons_of_mem _ hx)) g g1
    refine ⟨k0, k1, k2.trans g2, ?_, k4.trans g4, k5.trans g5⟩
    rw [List.length_cons]
    rw [List.foldl_cons]
    omega
theorem waitM_more {b : Book} (t : TSt) (h : ∀ r, t.s.row = some r → 1 ≤ t.s.left) : (∀ r, (waitM b t).s.row = some r → 1 ≤ (waitM b t).s.left) ∧ (b.quiet = none → t.s.sil = 0 → (waitM b t).s.sil = 0) := by
  unfold waitM
  split
  · exact ⟨h, fun _ h => h⟩
  · rename_i q e
    refine ⟨?_, fun h => by rw [h] at e; cases e⟩
    split
    · intro _ h
      cases h
    · exact h
theorem obeyM_l {b : Book} (hb : BOk b) {t : TSt} (h : ∀ r, t.s.row = some r → 1 ≤ t.s.left) (o : Ord) : (∀ r, (obeyM b t o).2.s.row = some r → 1 ≤ (obeyM b t o).2.s.left) ∧ (obeyM b t o).2.s.sil = 0 := by
  cases o with
  | stop => exact ⟨fun _ h => (nomatch h), rfl⟩
  | run n => exact ⟨beginM_l1 hb _ _ _, beginM_sil _ _ _ _⟩
  | go n =>
    have e : obeyM b t (.go n) = match cmdM b ⟨{ t.s with sil := 0 }, t.done, t.refused, t.mom⟩ n with
      | (true, t') => (false, t')
      | (false, t') => (false, ⟨t'.s, t'.done, t'.refused ++ [n], t'.mom⟩) := rfl
    obtain ⟨r1, r2, r3⟩ := cmdM_run b ⟨{ t.s with sil := 0 }, t.done, t.refused, t.mom⟩ n
    have q := cmdM_sil b ⟨{ t.s with sil := 0 }, t.done, t.refused, t.mom⟩ n
    rw [e]
    generalize cmdM b ⟨{ t.s with sil := 0 }, t.done, t.refused, t.mom⟩ n = z at r1 r3 q ⊢
    obtain ⟨c, t2⟩ := z
    have r1 : t2.s.row = t.s.row := r1
    have r3 : t2.s.left = t.s.left := r3
    cases c
    · refine ⟨fun r hr => ?_, q⟩
      show 1 ≤ t2.s.left
      rw [r3]
      exact h r (r1.symm.trans hr)
    · refine ⟨fun r hr => ?_, q⟩
      show 1 ≤ t2.s.left
      rw [r3]
      exact h r (r1.symm.trans hr)
theorem tickM_lok {b : Book} (hb : BOk b) {s : Stg} (h : LOk b s) (i : Inp) : LOk b (tickM b s i) := by
  obtain ⟨k0, k1, k2, k3, _⟩ := ansF_more hb i.alms b.alms ⟨s, [], [], []⟩ (fun _ h => h) h.toSOk h.l1
  have k1 : ∀ r, (ansM b ⟨s, [], [], []⟩ i.alms).s.row = some r → 1 ≤ (ansM b ⟨s, [], [], []⟩ i.alms).s.left := k1
  have k2 : (ansM b ⟨s, [], [], []⟩ i.alms).s.sil = s.sil := k2
  have et : tickM b s i = (match i.ord with
      | none => goM b (waitM b (ansM b ⟨s, [], [], []⟩ i.alms))
      | some o => match obeyM b (ansM b ⟨s, [], [], []⟩ i.alms) o with
        | (true, t') => t'
        | (false, t') => goM b t' : TSt).s := rfl
  refine { toSOk := tickM_ok hb h.toSOk i, l1 := ?_, s0 := ?_ }
  · rw [et]
    generalize ansM b ⟨s, [], [], []⟩ i.alms = t at k1 k2 ⊢
    cases i.ord with
    | none => exact goM_l1 hb (waitM_more _ k1).1
    | some o =>
      have := (obeyM_l hb k1 o).1
      show ∀ r, (match obeyM b t o with | (true, t') => t' | (false, t') => goM b t' : TSt).s.row = some r → 1 ≤ (match obeyM b t o with | (true, t') => t' | (false, t') => goM b t' : TSt).s.left
      generalize obeyM b t o = z at this ⊢
      obtain ⟨c, t2⟩ := z
      cases c
      · exact goM_l1 hb this
      · exact this
  · rw [et]
    intro hq
    generalize ansM b ⟨s, [], [], []⟩ i.alms = t at k1 k2 ⊢
    cases i.ord with
    | none =>
      show (goM b (waitM b t)).s.sil = 0
      rw [goM_sil]
      exact (waitM_more _ k1).2 hq (k2.trans (h.s0 hq))
    | some o =>
      have := (obeyM_l hb k1 o).2
      show (match obeyM b t o with | (true, t') => t' | (false, t') => goM b t' : TSt).s.sil = 0
      generalize obeyM b t o = z at this ⊢
      obtain ⟨c, t2⟩ := z
      cases c
      · show (goM b t2).s.sil = 0
        rw [goM_sil]
        exact this
      · exact this
theorem firstM_lok {b : Book} (hb : BOk b) : LOk b (firstM b) := by
  refine { toSOk := firstM_ok hb, l1 := ?_, s0 := ?_ }
  · intro r h
    unfold firstM at h
    split at h <;> cases h
  · intro _
    unfold firstM
    split <;> rfl
theorem obeyM_go {b : Book} {t : TSt} {n : Str} {c : Cmd} (hc : b.cmd? n = some c) : obeyM b t (.go n) = if t.s.mode ∈ c.ms then (false, ⟨⟨c.to.getD t.s.mode, lotM b t.s.lot c.von c.voff c.to, t.s.row, t.s.place, t.s.left, 0⟩, t.done ++ [n], t.refused, t.mom ++ [lotM b t.s.lot c.von c.voff c.to]⟩) else (false, ⟨⟨t.s.mode, t.s.lot, t.s.row, t.s.place, t.s.left, 0⟩, t.done, t.refused ++ [n], t.mom⟩) := by
  have e : obeyM b t (.go n) = match cmdM b ⟨{ t.s with sil := 0 }, t.done, t.refused, t.mom⟩ n with
    | (true, t') => (false, t')
    | (false, t') => (false, ⟨t'.s, t'.done, t'.refused ++ [n], t'.mom⟩) := rfl
  have e2 : cmdM b ⟨{ t.s with sil := 0 }, t.done, t.refused, t.mom⟩ n = if t.s.mode ∈ c.ms then (true, ⟨⟨c.to.getD t.s.mode, lotM b t.s.lot c.von c.voff c.to, t.s.row, t.s.place, t.s.left, 0⟩, t.done ++ [n], t.refused, t.mom ++ [lotM b t.s.lot c.von c.voff c.to]⟩) else (false, ⟨⟨t.s.mode, t.s.lot, t.s.row, t.s.place, t.s.left, 0⟩, t.done, t.refused, t.mom⟩) := by
    unfold cmdM
    rw [hc]
    rfl
  rw [e, e2]
  by_cases h : t.s.mode ∈ c.ms
  · rw [if_pos h, if_pos h]
  · rw [if_neg h, if_neg h]
theorem obeyM_run {b : Book} {t : TSt} {n : Str} {v : Row} {st : Int × Str} (hv : b.row? n = some v) (hst : v.steps[0]? = some st) : obeyM b t (.run n) = (true, ⟨⟨t.s.mode, t.s.lot, some n, 0, st.1, 0⟩, t.done, t.refused, t.mom⟩) := by
  have e : obeyM b t (.run n) = (true, beginM b ⟨{ t.s with sil := 0 }, t.done, t.refused, t.mom⟩ n 0) := rfl
  rw [e]
  unfold beginM
  rw [hv, Option.bind_some, hst]
def eTick (t : TSt) : D := .tup [eStg t.s, .lst (t.done.map .str), .lst (t.refused.map .str), .lst (t.mom.map eLot)]
def T_tickL (ds : List D) (d : D) : Prop := ∃ b s, ∃ i : Inp, BOk b ∧ LOk b s ∧ OrdOk b i.ord ∧ ds = [partsL b, eStg s, eLot i.alms, eOrd i.ord] ∧ d = eTick (tickT b s i)
end Fw
namespace Fw
open PySem PySem.Spec PyProof.Rows L2
section
variable {P : Program} {w : World} {K : PySem.W.Frag} {mg : Str → Option Value} {base : Heap} {CB : Addr}
def tickN : List Str := ["_law_parts", "_law_standing", "_law_alarms", "_law_order", "_law_mode", "_law_lot_here", "_law_row_here", "_law_place", "_law_left", "_law_silence", "_law_run", "_law_told_here", "_law_begun", "_law_name", "_law_on", "_law_off", "_law_to_here", "_law_effect_here"]
def tkS (b : Book) (s : Stg) (i : Inp) (q p1 p2 p3 : Addr) (t : TSt) (sil : Int) (bg : Bool) (x6 x7 x8 x13 x14 x15 x16 x17 : Slot) : List Slot := [.im (partsL b), .im (eStg s), .im (eLot i.alms), .im (eOrd i.ord), .im (.str t.s.mode), .im (eLot t.s.lot), x6, x7, x8, .im (.int sil), .im (eRun t.s), .tp q (tFs p1 p2 p3 t), .im (.bl bg), x13, x14, x15, x16, x17]
set_option maxHeartbeats 16000000 in
theorem l_tick {f : Addr} {fd : FuncData} (F : C8.Def K mg "_law_tick" (top 61) f fd) (b : Binds K fd ["_law_parts", "_law_standing", "_law_alarms", "_law_order"] []) (B : Bt mg) (c1 : C8.Cal P w K mg base 1 "_law_steps_of" (spP ⟨P, w, K⟩ T_stepsL) []) (c2 : C8.Cal P w K mg base 1 "_law_command" (spP ⟨P, w, K⟩ T_coL) []) (c3 : C8.Cal P w K mg base 2 "_law_effected" (spP ⟨P, w, K⟩ T_effd) []) (c4 : C8.Cal P w K mg base 3 "_law_running" (spT ⟨P, w, K⟩ T_runL) []) : C8.Cal P w K mg base 4 "_law_tick" (spP ⟨P, w, K⟩ T_tickL) [] := by
  have S : FnScope tickN ["_law_parts", "_law_standing", "_law_alarms", "_law_order"] (C8.fnScope (top 61)) := C8.fnScope_by (by decide +kernel)
  refine calP T_tickL F b S (fun ds d ⟨_, _, _, _, _, _, h, _⟩ => by rw [h]; rfl) (by decide) fun cdv A outer s0 H E hr ds d h => ?_
  obtain ⟨bk, s, i, hb, hs, ho, rfl, rfl⟩ := h
  have haf := hb.af
  refine sd_cons (ss_tup (ee_v 1 (eStg s)) (gd_tup (gds_cons (gd_name 4 S.nd) (gds_cons (gd_name 5 S.nd) (gds_cons (gd_name 6 S.nd) (gds_cons (gd_name 7 S.nd) (gds_cons (gd_name 8 S.nd) (gds_cons (gd_name 9 S.nd) gds_nil))))))) ?_)
  refine sd_cons (ss_par3T 10 11 12 (d1 := eRun s) (d3 := .bl false) (R := fun fs => ∃ p1 p2 p3, fs = tFs p1 p2 p3 ⟨s, [], [], []⟩) (ee_tup (ea_cons (ee_v 6 (eOpt s.row)) (ea_cons (ee_v 7 (.int s.place)) (ea_cons (ee_v 8 (.int s.left)) ea_nil)))) (etp_cast (etp_tup (efn_new (eo_lst ea_nil) (efn_new (eo_lst ea_nil) (efn_new (eo_lst ea_nil) efn_nil))) (by decide) ?_) ?_) ee_bl (fun q fs hfs => ?_) S.nd)
  · rintro fs ⟨p1, _, rfl, p2, _, rfl, p3, _, rfl, rfl⟩
    show 3 ≤ 100000
    decide
  · rintro fs ⟨p1, _, rfl, p2, _, rfl, p3, _, rfl, rfl⟩
    exact ⟨p1, p2, p3, rfl⟩
  obtain ⟨p1, p2, p3, rfl⟩ := hfs
  -- the end
  have ret : ∀ (t : TSt) (bg : Bool) (x6 x7 x8 x13 x14 x15 x16 x17 : Slot), SD (cxOf C8.CX0 P w K mg base tickN "_law_tick" (C8.fnScope (top 61)) f cdv A outer s0 H E).nox (tkS bk s i q p1 p2 p3 t t.s.sil bg x6 x7 x8 x13 x14 x15 x16 x17) ((C8.fnBody (top 61)).drop 9) { nx := fun _ => eTick t = .non, rt := fun z _ => z = .im (eTick t) } := by
    intro t bg x6 x7 x8 x13 x14 x15 x16 x17
    refine sd_frzTp 11 (q := q) (fs := tFs p1 p2 p3 t) rfl ?_
    refine sd_cons (ss_ret (ee_tup (ea_cons (ee_catT (ds := [.str t.s.mode, eLot t.s.lot, eOpt t.s.row, .int t.s.place, .int t.s.left]) (es := [.int t.s.sil]) (EE.cast (ee_catT (ds := [.str t.s.mode, eLot t.s.lot]) (es := [eOpt t.s.row, .int t.s.place, .int t.s.left]) (ee_tup (ea_cons (ee_v 4 (.str t.s.mode)) (ea_cons (ee_v 5 (eLot t.s.lot)) ea_nil))) (ee_v 10 (eRun t.s)) (Nat.le_of_ble_eq_true rfl)) rfl) (ee_tup (ea_cons (ee_v 9 (.int t.s.sil)) ea_nil)) (Nat.le_of_ble_eq_true rfl)) (ea_cons (ee_ixT (i := 0) (d := .lst (t.done.map .str)) (ee_v 11 (.tup [.lst (t.done.map .str), .lst (t.refused.map .str), .lst (t.mom.map eLot)])) ee_int rfl) (ea_cons (ee_ixT (i := 1) (d := .lst (t.refused.map .str)) (ee_v 11 (.tup [.lst (t.done.map .str), .lst (t.refused.map .str), .lst (t.mom.map eLot)])) ee_int rfl) (ea_cons (ee_ixT (i := 2) (d := .lst (t.mom.map eLot)) (ee_v 11 (.tup [.lst (t.done.map .str), .lst (t.refused.map .str), .lst (t.mom.map eLot)])) ee_int rfl) ea_nil))))) ?_)
    rfl
  -- a row runs on
  have fin : ∀ (t : TSt) (bg : Bool) (x6 x7 x8 x13 x14 x15 x16 x17 : Slot), SOk bk t.s → (∀ r, t.s.row = some r → 1 ≤ t.s.left) → t.done.length ≤ 1000 → t.mom.length ≤ 1000 → SD (cxOf C8.CX0 P w K mg base tickN "_law_tick" (C8.fnScope (top 61)) f cdv A outer s0 H E).nox (tkS bk s i q p1 p2 p3 t t.s.sil bg x6 x7 x8 x13 x14 x15 x16 x17) ((C8.fnBody (top 61)).drop 8) { nx := fun _ => eTick (if bg then t else goM bk t) = .non, rt := fun z _ => z = .im (eTick (if bg then t else goM bk t)) } := by
    intro t bg x6 x7 x8 x13 x14 x15 x16 x17 h1 h2 h3 h4
    cases bg with
    | true =>
      refine sd_cons (ss_if (x := false) (et_w (EW.cast (ew_and (x := !(eOpt t.s.row).isN) (y := false) (et_c2 cmp_notN (ee_ixT (i := 0) (d := eOpt t.s.row) (ee_v 10 (eRun t.s)) ee_int rfl) ee_non) fun _ => ew_and1 (ET.cast (et_not (et_val (ee_v 12 (.bl true)))) rfl)) (Bool.and_false _))) (fun h => nomatch h) fun _ => sd_nil ?_)
      exact ret t true x6 x7 x8 x13 x14 x15 x16 x17
    | false =>
      cases hrow : t.s.row with
      | none =>
        have eg : goM bk t = t := by
          unfold goM
          rw [hrow]
        refine sd_cons (ss_if (x := false) (et_w (EW.cast (ew_and (x := false) (y := true) (ET.cast (et_c2 (cmp_notN (d := .non)) (ee_ixT (i := 0) (d := .non) (ee_v 10 (eRun t.s)) ee_int (by rw [hrow]; rfl)) ee_non) rfl) fun h => nomatch h) rfl)) (fun h => nomatch h) fun _ => sd_nil ?_)
        have := ret t false x6 x7 x8 x13 x14 x15 x16 x17
        show SD _ _ _ { nx := fun _ => eTick (goM bk t) = .non, rt := fun z _ => z = .im (eTick (goM bk t)) }
        rw [eg]
        exact this
      | some r =>
        refine sd_cons (ss_if (x := true) (et_w (EW.cast (ew_and (x := true) (y := true) (ET.cast (et_c2 (cmp_notN (d := .str r)) (ee_ixT (i := 0) (d := .str r) (ee_v 10 (eRun t.s)) ee_int (by rw [hrow]; rfl)) ee_non) rfl) fun _ => ew_and1 (ET.cast (et_not (et_val (ee_v 12 (.bl false)))) rfl)) rfl)) (fun _ => ?_) fun h => nomatch h)
        refine sd_cons (ss_tupF (ef_callT 11 (q := q) (fs := tFs p1 p2 p3 t) (fs' := tFs p1 p2 p3 (goM bk t)) (d := .tup [.str (goM bk t).s.mode, eLot (goM bk t).s.lot, eRun (goM bk t).s]) c4 hr (by decide) rfl (eat_cons (ee_v 0 (partsL bk)) (eat_cons (ee_v 4 (.str t.s.mode)) (eat_cons (ee_v 5 (eLot t.s.lot)) (eat_cons (ee_v 10 (eRun t.s)) (eat_tp 11 rfl))))) ⟨bk, t, r, p1, p2, p3, hb, h1, hrow, h2 r hrow, h3, h4, rfl, rfl, rfl, rfl⟩) (gd_tup (gds_cons (gd_name 4 S.nd) (gds_cons (gd_name 5 S.nd) (gds_cons (gd_name 10 S.nd) gds_nil)))) (sd_nil ?_))
        have := ret (goM bk t) false x6 x7 x8 x13 x14 x15 x16 x17
        rw [goM_sil] at this
        exact this
  -- the alarms
  refine sd_cons (ss_for eAlm (fun a => [(13, .str a.nm), (14, eLot a.von), (15, eLot a.voff), (16, eOpt a.to)]) (ei_lst (ee_ixT (i := 4) (ee_v 0 (partsL bk)) ee_int rfl)) (fun n ss' => ∃ x13 x14 x15 x16, ss' = tkS bk s i q p1 p2 p3 ((bk.alms.take n).foldl (ans1 bk i.alms) ⟨s, [], [], []⟩) s.sil false (.im (eOpt s.row)) (.im (.int s.place)) (.im (.int s.left)) x13 x14 x15 x16 .no) ⟨_, _, _, _, rfl⟩ ?_ ?_ ?_)
  · rintro n a ss' hm ⟨x13, x14, x15, x16, rfl⟩
    exact gd_tup (gds_cons (gd_name 13 S.nd) (gds_cons (gd_name 14 S.nd) (gds_cons (gd_name 15 S.nd) (gds_cons (gd_name 16 S.nd) gds_nil))))
  · rintro n a ss' hm ⟨x13, x14, x15, x16, rfl⟩
    have ham := List.mem_of_getElem? hm
    obtain ⟨k0, k1, k2, k3, k4, k5⟩ := ansF_more hb i.alms (bk.alms.take n) ⟨s, [], [], []⟩ (fun x hx => List.mem_of_mem_take hx) hs.toSOk hs.l1
    obtain ⟨_, al1, al2⟩ := hb.al a ham
    rw [take_snoc hm, List.foldl_append]
    have k3 : ((bk.alms.take n).foldl (ans1 bk i.alms) ⟨s, [], [], []⟩).mom.length ≤ 100 := by
      refine Nat.le_trans k3 ?_
      show 0 + _ ≤ _
      rw [List.length_take]
      omega
    generalize (bk.alms.take n).foldl (ans1 bk i.alms) ⟨s, [], [], []⟩ = t at k0 k1 k2 k3 k4 k5 ⊢
    by_cases hin : a.nm ∈ i.alms
    · have e : [a].foldl (ans1 bk i.alms) t = haltM (effM bk t a.von a.voff a.to) := if_pos hin
      rw [e]
      refine sd_cons (ss_if (x := true) (ET.cast (et_c2 cmp_inT (ee_v 13 (.str a.nm)) (ee_v 2 (eLot i.alms))) (decide_eq_true hin)) (fun _ => ?_) fun h => nomatch h)
      refine sd_cons (ss_tup (ee_call c3 hr (by decide) (ea_cons (ee_v 0 (partsL bk)) (ea_cons (ee_v 4 (.str t.s.mode)) (ea_cons (ee_v 5 (eLot t.s.lot)) (ea_cons (ee_v 14 (eLot a.von)) (ea_cons (ee_v 15 (eLot a.voff)) (ea_cons (ee_v 16 (eOpt a.to)) ea_nil)))))) ⟨bk, t.s.mode, t.s.lot, a.von, a.voff, a.to, hb, k0.lt, al1, al2, rfl, rfl⟩) (gd_tup (gds_cons (gd_name 4 S.nd) (gds_cons (gd_name 5 S.nd) gds_nil))) ?_)
      refine sd_cons (ss_appTp 11 2 (q := q) (l := p3) rfl rfl ee_int (ee_v 5 (eLot (lotM bk t.s.lot a.von a.voff a.to))) (by rw [List.length_map]; omega) ?_)
      refine sd_cons (ss_asg 10 (ee_tup (ea_cons ee_non (ea_cons ee_int (ea_cons ee_int ea_nil)))) (sd_nil (sd_nil ⟨.im (.str a.nm), .im (eLot a.von), .im (eLot a.voff), .im (eOpt a.to), ?_⟩)) S.nd)
      unfold tkS tFs effM haltM
      simp only [List.map_append]
      rfl
    · have e : [a].foldl (ans1 bk i.alms) t = t := if_neg hin
      rw [e]
      exact sd_cons (ss_if (x := false) (ET.cast (et_c2 cmp_inT (ee_v 13 (.str a.nm)) (ee_v 2 (eLot i.alms))) (decide_eq_false hin)) (fun h => nomatch h) fun _ => sd_nil (sd_nil ⟨_, _, _, _, rfl⟩))
  · rintro ss' ⟨x13, x14, x15, x16, rfl⟩
    rw [List.take_length]
    obtain ⟨k0, k1, k2, k3, k4, k5⟩ := ansF_more hb i.alms bk.alms ⟨s, [], [], []⟩ (fun x hx => hx) hs.toSOk hs.l1
    have k3 : (ansM bk ⟨s, [], [], []⟩ i.alms).mom.length ≤ 100 := by
      refine Nat.le_trans k3 ?_
      show 0 + _ ≤ _
      omega
    have et : tickT bk s i = match i.ord with
      | none => goM bk (waitM bk (ansM bk ⟨s, [], [], []⟩ i.alms))
      | some o => match obeyM bk (ansM bk ⟨s, [], [], []⟩ i.alms) o with
        | (true, t') => t'
        | (false, t') => goM bk t' := rfl
    rw [et]
    refine (?_ : (∀ t : TSt, SOk bk t.s → (∀ r, t.s.row = some r → 1 ≤ t.s.left) → t.s.sil = s.sil → t.mom.length ≤ 100 → t.done = [] → t.refused = [] → SD (cxOf C8.CX0 P w K mg base tickN "_law_tick" (C8.fnScope (top 61)) f cdv A outer s0 H E).nox (tkS bk s i q p1 p2 p3 t s.sil false (.im (eOpt s.row)) (.im (.int s.place)) (.im (.int s.left)) x13 x14 x15 x16 .no) ((C8.fnBody (top 61)).drop 3)
      { nx := fun _ => eTick (match i.ord with | none => goM bk (waitM bk t) | some o => match obeyM bk t o with | (true, t') => t' | (false, t') => goM bk t') = .non, rt := fun z _ => z = .im (eTick (match i.ord with | none => goM bk (waitM bk t) | some o => match obeyM bk t o with | (true, t') => t' | (false, t') => goM bk t')) }) → _) ?_
    · exact fun tail => tail _ k0 k1 k2 k3 k4 k5
    clear et k0 k1 k2 k3 k4 k5
    intro t k0 k1 k2 k3 k4 k5
    obtain ⟨al, ord⟩ := i
    have ho : OrdOk bk ord := ho
    cases ord with
    | none =>
      refine sd_cons (ss_if (x := false) (et_w (EW.cast (ew_and (x := false) (y := true) (ET.cast (et_c2 (cmp_notN (d := .non)) (ee_v 3 .non) ee_non) rfl) fun h => nomatch h) rfl)) (fun h => nomatch h) fun _ => sd_nil ?_)
      refine sd_cons (ss_if (x := false) (et_w (EW.cast (ew_and (x := false) (y := true) (ET.cast (et_c2 (cmp_notN (d := .non)) (ee_v 3 .non) ee_non) rfl) fun h => nomatch h) rfl)) (fun h => nomatch h) fun _ => sd_nil ?_)
      refine sd_cons (ss_if (x := false) (et_w (EW.cast (ew_and (x := false) (y := true) (ET.cast (et_c2 (cmp_notN (d := .non)) (ee_v 3 .non) ee_non) rfl) fun h => nomatch h) rfl)) (fun h => nomatch h) fun _ => sd_nil ?_)
      cases hq : bk.quiet with
      | none =>
        have hq0 : atI [eStrs bk.holds, .lst (bk.modes.map eMode), .lst (bk.barred.map eLot), .lst (bk.cmds.map eCmd), .lst (bk.alms.map eAlm), .lst (bk.rows.map eRow), eOptI bk.quiet] 6 = some .non := by rw [hq]; rfl
        refine sd_cons (ss_asg 9 (d := .int 0) (ee_if (x := false) (et_w (EW.cast (ew_and (x := true) (y := false) (ET.cast (et_c2 (cmp_isN (d := .non)) (ee_v 3 .non) ee_non) rfl) fun _ => ew_and1 (ET.cast (et_c2 (cmp_notN (d := .non)) (ee_ixT (i := 6) (d := .non) (ee_v 0 (partsL bk)) ee_int hq0) ee_non) rfl)) rfl)) (fun h => nomatch h) fun _ => ee_int) ?_ S.nd)
        refine sd_cons (ss_if (x := false) (et_w (EW.cast (ew_and (x := true) (y := false) (ET.cast (et_c2 (cmp_isN (d := .non)) (ee_v 3 .non) ee_non) rfl) fun _ => ew_and (x := false) (y := true) (ET.cast (et_c2 (cmp_notN (d := .non)) (ee_ixT (i := 6) (d := .non) (ee_v 0 (partsL bk)) ee_int hq0) ee_non) rfl) fun h => nomatch h) rfl)) (fun h => nomatch h) fun _ => sd_nil ?_)
        have ew : waitM bk t = t := by unfold waitM; rw [hq]
        have := fin t false (.im (eOpt s.row)) (.im (.int s.place)) (.im (.int s.left)) x13 x14 x15 x16 .no k0 k1 (by rw [k4]; exact Nat.zero_le _) (by omega)
        rw [k2.trans (hs.s0 hq)] at this
        show SD _ _ _ { nx := fun _ => eTick (goM bk (waitM bk t)) = .non, rt := fun z _ => z = .im (eTick (goM bk (waitM bk t))) }
        rw [ew]
        exact this
      | some qq =>
        have hq0 : atI [eStrs bk.holds, .lst (bk.modes.map eMode), .lst (bk.barred.map eLot), .lst (bk.cmds.map eCmd), .lst (bk.alms.map eAlm), .lst (bk.rows.map eRow), eOptI bk.quiet] 6 = some (.int qq) := by rw [hq]; rfl
        have kw := (waitM_ok hb k0).1
        have kw1 := (waitM_more (b := bk) t k1).1
        refine sd_cons (ss_asg 9 (d := .int (s.sil + 1)) (ee_if (x := true) (et_w (EW.cast (ew_and (x := true) (y := true) (ET.cast (et_c2 (cmp_isN (d := .non)) (ee_v 3 .non) ee_non) rfl) fun _ => ew_and1 (ET.cast (et_c2 (cmp_notN (d := .int qq)) (ee_ixT (i := 6) (d := .int qq) (ee_v 0 (partsL bk)) ee_int hq0) ee_non) rfl)) rfl)) (fun _ => ee_add (ee_v 9 (.int s.sil)) ee_int) fun h => nomatch h) ?_ S.nd)
        by_cases hqq : s.sil + 1 = qq
        · have ew : waitM bk t = ⟨⟨homeM bk, lotM bk t.s.lot [] [] (some (homeM bk)), none, 0, 0, 0⟩, t.done, t.refused, t.mom ++ [lotM bk t.s.lot [] [] (some (homeM bk))]⟩ := by
            unfold waitM
            rw [hq]
            show (if t.s.sil + 1 = qq then _ else _) = _
            rw [k2, if_pos hqq]
            rfl
          refine sd_cons (ss_if (x := true) (et_w (EW.cast (ew_and (x := true) (y := true) (ET.cast (et_c2 (cmp_isN (d := .non)) (ee_v 3 .non) ee_non) rfl) fun _ => ew_and (x := true) (y := true) (ET.cast (et_c2 (cmp_notN (d := .int qq)) (ee_ixT (i := 6) (d := .int qq) (ee_v 0 (partsL bk)) ee_int hq0) ee_non) rfl) fun _ => ew_and1 (ET.cast (et_c2 cmp_eqI (ee_v 9 (.int (s.sil + 1))) (ee_ixT (i := 6) (d := .int qq) (ee_v 0 (partsL bk)) ee_int hq0)) (decide_eq_true hqq))) rfl)) (fun _ => ?_) fun h => nomatch h)
          obtain ⟨m0, mr, em⟩ : ∃ m0 mr, bk.modes = m0 :: mr := by
            cases e : bk.modes with
            | nil => exact absurd e hb.m0
            | cons a r => exact ⟨a, r, rfl⟩
          have eh : homeM bk = m0.nm := by unfold homeM; rw [em]; rfl
          refine sd_cons (ss_tup (ee_call c3 hr (by decide) (ea_cons (ee_v 0 (partsL bk)) (ea_cons (ee_v 4 (.str t.s.mode)) (ea_cons (ee_v 5 (eLot t.s.lot)) (ea_cons (ee_tup ea_nil) (ea_cons (ee_tup ea_nil) (ea_cons (ee_ixT (i := 0) (d := .str (homeM bk)) (ee_ixL (i := 0) (d := eMode m0) (ee_ixT (i := 1) (d := .lst (bk.modes.map eMode)) (ee_v 0 (partsL bk)) ee_int rfl) ee_int (by rw [em]; exact (atI_nat (j := 0) rfl))) ee_int (by rw [eh]; rfl)) ea_nil)))))) ⟨bk, t.s.mode, t.s.lot, [], [], some (homeM bk), hb, k0.lt, turned_nil _, (fun x h => by cases h; exact home_mem hb), rfl, rfl⟩) (gd_tup (gds_cons (gd_name 4 S.nd) (gds_cons (gd_name 5 S.nd) gds_nil))) ?_)
          refine sd_cons (ss_appTp 11 2 (q := q) (l := p3) rfl rfl ee_int (ee_v 5 (eLot (lotM bk t.s.lot [] [] (some (homeM bk))))) (by rw [List.length_map]; omega) ?_)
          refine sd_cons (ss_tup (ee_tup (ea_cons (ee_tup (ea_cons ee_non (ea_cons ee_int (ea_cons ee_int ea_nil)))) (ea_cons ee_int ea_nil))) (gd_tup (gds_cons (gd_name 10 S.nd) (gds_cons (gd_name 9 S.nd) gds_nil))) (sd_nil ?_))
          have := fin (waitM bk t) false (.im (eOpt s.row)) (.im (.int s.place)) (.im (.int s.left)) x13 x14 x15 x16 .no kw kw1 (by rw [ew]; show t.done.length ≤ _; rw [k4]; exact Nat.zero_le _) (by rw [ew]; show (t.mom ++ [_]).length ≤ _; rw [List.length_append, List.length_singleton]; omega)
          rw [ew] at this
          show SD _ _ _ { nx := fun _ => eTick (goM bk (waitM bk t)) = .non, rt := fun z _ => z = .im (eTick (goM bk (waitM bk t))) }
          rw [ew]
          unfold tkS tFs at this
          simp only [List.map_append] at this
          exact this
        · have ew : waitM bk t = { t with s := { t.s with sil := s.sil + 1 } } := by
            unfold waitM
            rw [hq]
            show (if t.s.sil + 1 = qq then _ else _) = _
            rw [k2, if_neg hqq]
          refine sd_cons (ss_if (x := false) (et_w (EW.cast (ew_and (x := true) (y := false) (ET.cast (et_c2 (cmp_isN (d := .non)) (ee_v 3 .non) ee_non) rfl) fun _ => ew_and (x := true) (y := false) (ET.cast (et_c2 (cmp_notN (d := .int qq)) (ee_ixT (i := 6) (d := .int qq) (ee_v 0 (partsL bk)) ee_int hq0) ee_non) rfl) fun _ => ew_and1 (ET.cast (et_c2 cmp_eqI (ee_v 9 (.int (s.sil + 1))) (ee_ixT (i := 6) (d := .int qq) (ee_v 0 (partsL bk)) ee_int hq0)) (decide_eq_false hqq))) rfl)) (fun h => nomatch h) fun _ => sd_nil ?_)
          have := fin (waitM bk t) false (.im (eOpt s.row)) (.im (.int s.place)) (.im (.int s.left)) x13 x14 x15 x16 .no kw kw1 (by rw [ew]; show t.done.length ≤ _; rw [k4]; exact Nat.zero_le _) (by rw [ew]; show t.mom.length ≤ _; omega)
          rw [ew] at this
          show SD _ _ _ { nx := fun _ => eTick (goM bk (waitM bk t)) = .non, rt := fun z _ => z = .im (eTick (goM bk (waitM bk t))) }
          rw [ew]
          exact this
    | some o =>
      -- behind the order
      have back : ∀ (t' : TSt) (bg : Bool) (x17 : Slot), t'.s.sil = 0 → SOk bk t'.s → (∀ r, t'.s.row = some r → 1 ≤ t'.s.left) → t'.done.length ≤ 1000 → t'.mom.length ≤ 1000 → SD (cxOf C8.CX0 P w K mg base tickN "_law_tick" (C8.fnScope (top 61)) f cdv A outer s0 H E).nox (tkS bk s ⟨al, some o⟩ q p1 p2 p3 t' s.sil bg (.im (eOpt s.row)) (.im (.int s.place)) (.im (.int s.left)) x13 x14 x15 x16 x17) ((C8.fnBody (top 61)).drop 6) { nx := fun _ => eTick (if bg then t' else goM bk t') = .non, rt := fun z _ => z = .im (eTick (if bg then t' else goM bk t')) } := by
        intro t' bg x17 h0 h1 h2 h3 h4
        have hn : (eOrd (some o)).isN = false := by cases o <;> rfl
        refine sd_cons (ss_asg 9 (d := .int 0) (ee_if (x := false) (et_w (EW.cast (ew_and (x := false) (y := true) (ET.cast (et_c2 (cmp_isN (d := eOrd (some o))) (ee_v 3 (eOrd (some o))) ee_non) hn) fun h => nomatch h) rfl)) (fun h => nomatch h) fun _ => ee_int) ?_ S.nd)
        refine sd_cons (ss_if (x := false) (et_w (EW.cast (ew_and (x := false) (y := true) (ET.cast (et_c2 (cmp_isN (d := eOrd (some o))) (ee_v 3 (eOrd (some o))) ee_non) hn) fun h => nomatch h) rfl)) (fun h => nomatch h) fun _ => sd_nil ?_)
        have := fin t' bg (.im (eOpt s.row)) (.im (.int s.place)) (.im (.int s.left)) x13 x14 x15 x16 x17 h1 h2 h3 h4
        rw [h0] at this
        exact this
      have kk := (obeyM_ok hb k0 o).1
      cases o with
      | stop =>
        refine sd_cons (ss_if (x := false) (et_w (EW.cast (ew_and (x := true) (y := false) (ET.cast (et_c2 (cmp_notN (d := .tup [.str "stop"])) (ee_v 3 (.tup [.str "stop"])) ee_non) rfl) fun _ => ew_and1 (ET.cast (et_c2 cmp_eqS (ee_ixT (i := 0) (d := .str "stop") (ee_v 3 (.tup [.str "stop"])) ee_int rfl) ee_str) (by decide))) rfl)) (fun h => nomatch h) fun _ => sd_nil ?_)
        refine sd_cons (ss_if (x := true) (et_w (EW.cast (ew_and (x := true) (y := true) (ET.cast (et_c2 (cmp_notN (d := .tup [.str "stop"])) (ee_v 3 (.tup [.str "stop"])) ee_non) rfl) fun _ => ew_and1 (ET.cast (et_c2 cmp_eqS (ee_ixT (i := 0) (d := .str "stop") (ee_v 3 (.tup [.str "stop"])) ee_int rfl) ee_str) (by decide))) rfl)) (fun _ => ?_) fun h => nomatch h)
        refine sd_cons (ss_asg 10 (ee_tup (ea_cons ee_non (ea_cons ee_int (ea_cons ee_int ea_nil)))) (sd_nil ?_) S.nd)
        refine sd_cons (ss_if (x := false) (et_w (EW.cast (ew_and (x := true) (y := false) (ET.cast (et_c2 (cmp_notN (d := .tup [.str "stop"])) (ee_v 3 (.tup [.str "stop"])) ee_non) rfl) fun _ => ew_and1 (ET.cast (et_c2 cmp_eqS (ee_ixT (i := 0) (d := .str "stop") (ee_v 3 (.tup [.str "stop"])) ee_int rfl) ee_str) (by decide))) rfl)) (fun h => nomatch h) fun _ => sd_nil ?_)
        exact back (haltM { t with s := { t.s with sil := 0 } }) false .no rfl kk (fun _ h => (nomatch h)) (by show t.done.length ≤ _; rw [k4]; exact Nat.zero_le _) (by show t.mom.length ≤ _; omega)
      | go n =>
        obtain ⟨cm, hcm⟩ := cmd?_of (show n ∈ bk.cmds.map Cmd.nm from ho)
        have rest : ∀ (t' : TSt) (x17 : Slot), t'.s.sil = 0 → SOk bk t'.s → (∀ r, t'.s.row = some r → 1 ≤ t'.s.left) → t'.done.length ≤ 1000 → t'.mom.length ≤ 1000 → SD (cxOf C8.CX0 P w K mg base tickN "_law_tick" (C8.fnScope (top 61)) f cdv A outer s0 H E).nox (tkS bk s ⟨al, some (.go n)⟩ q p1 p2 p3 t' s.sil false (.im (eOpt s.row)) (.im (.int s.place)) (.im (.int s.left)) x13 x14 x15 x16 x17) ((C8.fnBody (top 61)).drop 4) { nx := fun _ => eTick (goM bk t') = .non, rt := fun z _ => z = .im (eTick (goM bk t')) } := by
          intro t' x17 h0 h1 h2 h3 h4
          refine sd_cons (ss_if (x := false) (et_w (EW.cast (ew_and (x := true) (y := false) (ET.cast (et_c2 (cmp_notN (d := .tup [.str "do", .str n])) (ee_v 3 (.tup [.str "do", .str n])) ee_non) rfl) fun _ => ew_and1 (ET.cast (et_c2 cmp_eqS (ee_ixT (i := 0) (d := .str "do") (ee_v 3 (.tup [.str "do", .str n])) ee_int rfl) ee_str) (by decide))) rfl)) (fun h => nomatch h) fun _ => sd_nil ?_)
          refine sd_cons (ss_if (x := false) (et_w (EW.cast (ew_and (x := true) (y := false) (ET.cast (et_c2 (cmp_notN (d := .tup [.str "do", .str n])) (ee_v 3 (.tup [.str "do", .str n])) ee_non) rfl) fun _ => ew_and1 (ET.cast (et_c2 cmp_eqS (ee_ixT (i := 0) (d := .str "do") (ee_v 3 (.tup [.str "do", .str n])) ee_int rfl) ee_str) (by decide))) rfl)) (fun h => nomatch h) fun _ => sd_nil ?_)
          exact back t' false x17 h0 h1 h2 h3 h4
        obtain ⟨_, ct1, ct2, _⟩ := hb.ct cm (cmd?_some hcm).1
        by_cases hm : t.s.mode ∈ cm.ms
        · have ec : coM bk t.s.mode n = some cm := by
            unfold coM
            rw [hcm, Option.bind_some, if_pos hm]
          have eo := obeyM_go (t := t) hcm
          rw [if_pos hm] at eo
          rw [eo] at kk
          show SD _ _ _ { nx := fun _ => eTick (match obeyM bk t (.go n) with | (true, t') => t' | (false, t') => goM bk t') = .non, rt := fun z _ => z = .im (eTick (match obeyM bk t (.go n) with | (true, t') => t' | (false, t') => goM bk t')) }
          rw [eo]
          refine sd_cons (ss_if (x := true) (et_w (EW.cast (ew_and (x := true) (y := true) (ET.cast (et_c2 (cmp_notN (d := .tup [.str "do", .str n])) (ee_v 3 (.tup [.str "do", .str n])) ee_non) rfl) fun _ => ew_and1 (ET.cast (et_c2 cmp_eqS (ee_ixT (i := 0) (d := .str "do") (ee_v 3 (.tup [.str "do", .str n])) ee_int rfl) ee_str) (by decide))) rfl)) (fun _ => ?_) fun h => nomatch h)
          refine sd_cons (ss_asg 17 (d := eCo (coM bk t.s.mode n)) (ee_call c2 hr (by decide) (ea_cons (ee_v 0 (partsL bk)) (ea_cons (ee_v 4 (.str t.s.mode)) (ea_cons (ee_ixT (i := 1) (d := .str n) (ee_v 3 (.tup [.str "do", .str n])) ee_int rfl) ea_nil))) ⟨bk, t.s.mode, n, hb, rfl, rfl⟩) ?_ S.nd)
          rw [ec]
          refine sd_cons (ss_if (x := false) (ET.cast (et_c2 (cmp_isN (d := eCo (some cm))) (ee_v 17 (eCo (some cm))) ee_non) rfl) (fun h => nomatch h) fun _ => ?_)
          refine sd_cons (ss_tup (ee_call c3 hr (by decide) (ea_cons (ee_v 0 (partsL bk)) (ea_cons (ee_v 4 (.str t.s.mode)) (ea_cons (ee_v 5 (eLot t.s.lot)) (ea_cons (ee_ixT (i := 0) (d := eLot cm.von) (ee_v 17 (eCo (some cm))) ee_int rfl) (ea_cons (ee_ixT (i := 1) (d := eLot cm.voff) (ee_v 17 (eCo (some cm))) ee_int rfl) (ea_cons (ee_ixT (i := 2) (d := eOpt cm.to) (ee_v 17 (eCo (some cm))) ee_int rfl) ea_nil)))))) ⟨bk, t.s.mode, t.s.lot, cm.von, cm.voff, cm.to, hb, k0.lt, ct1, ct2, rfl, rfl⟩) (gd_tup (gds_cons (gd_name 4 S.nd) (gds_cons (gd_name 5 S.nd) gds_nil))) ?_)
          refine sd_cons (ss_appTp 11 0 (q := q) (l := p1) rfl rfl ee_int (ee_ixT (i := 1) (d := .str n) (ee_v 3 (.tup [.str "do", .str n])) ee_int rfl) (by rw [List.length_map, k4]; exact Nat.zero_le _) ?_)
          refine sd_cons (ss_appTp 11 2 (q := q) (l := p3) rfl rfl ee_int (ee_v 5 (eLot (lotM bk t.s.lot cm.von cm.voff cm.to))) (by rw [List.length_map]; omega) (sd_nil (sd_nil ?_)))
          have := rest ⟨⟨cm.to.getD t.s.mode, lotM bk t.s.lot cm.von cm.voff cm.to, t.s.row, t.s.place, t.s.left, 0⟩, t.done ++ [n], t.refused, t.mom ++ [lotM bk t.s.lot cm.von cm.voff cm.to]⟩ (.im (eCo (some cm))) rfl kk k1 (by show (t.done ++ [n]).length ≤ _; rw [k4]; simp) (by show (t.mom ++ [_]).length ≤ _; rw [List.length_append, List.length_singleton]; omega)
          unfold tkS tFs at this
          simp only [List.map_append] at this
          exact this
        · have ec : coM bk t.s.mode n = none := by
            unfold coM
            rw [hcm, Option.bind_some, if_neg hm]
          have eo := obeyM_go (t := t) hcm
          rw [if_neg hm] at eo
          rw [eo] at kk
          show SD _ _ _ { nx := fun _ => eTick (match obeyM bk t (.go n) with | (true, t') => t' | (false, t') => goM bk t') = .non, rt := fun z _ => z = .im (eTick (match obeyM bk t (.go n) with | (true, t') => t' | (false, t') => goM bk t')) }
          rw [eo]
          refine sd_cons (ss_if (x := true) (et_w (EW.cast (ew_and (x := true) (y := true) (ET.cast (et_c2 (cmp_notN (d := .tup [.str "do", .str n])) (ee_v 3 (.tup [.str "do", .str n])) ee_non) rfl) fun _ => ew_and1 (ET.cast (et_c2 cmp_eqS (ee_ixT (i := 0) (d := .str "do") (ee_v 3 (.tup [.str "do", .str n])) ee_int rfl) ee_str) (by decide))) rfl)) (fun _ => ?_) fun h => nomatch h)
          refine sd_cons (ss_asg 17 (d := eCo (coM bk t.s.mode n)) (ee_call c2 hr (by decide) (ea_cons (ee_v 0 (partsL bk)) (ea_cons (ee_v 4 (.str t.s.mode)) (ea_cons (ee_ixT (i := 1) (d := .str n) (ee_v 3 (.tup [.str "do", .str n])) ee_int rfl) ea_nil))) ⟨bk, t.s.mode, n, hb, rfl, rfl⟩) ?_ S.nd)
          rw [ec]
          refine sd_cons (ss_if (x := true) (ET.cast (et_c2 (cmp_isN (d := eCo none)) (ee_v 17 (eCo none)) ee_non) rfl) (fun _ => ?_) fun h => nomatch h)
          refine sd_cons (ss_appTp 11 1 (q := q) (l := p2) rfl rfl ee_int (ee_ixT (i := 1) (d := .str n) (ee_v 3 (.tup [.str "do", .str n])) ee_int rfl) (by rw [List.length_map, k5]; exact Nat.zero_le _) (sd_nil (sd_nil ?_)))
          have := rest ⟨⟨t.s.mode, t.s.lot, t.s.row, t.s.place, t.s.left, 0⟩, t.done, t.refused ++ [n], t.mom⟩ (.im (eCo none)) rfl kk k1 (by show t.done.length ≤ _; rw [k4]; decide) (by show t.mom.length ≤ _; omega)
          unfold tkS tFs at this
          simp only [List.map_append] at this
          exact this
      | run n =>
        obtain ⟨v, hv⟩ := row?_of (show n ∈ bk.rows.map Row.nm from ho)
        obtain ⟨_, hv0, _, _⟩ := hb.rs v (row?_some hv).1
        obtain ⟨st, hst⟩ : ∃ st, v.steps[0]? = some st := ⟨_, List.getElem?_eq_getElem hv0⟩
        have eo := obeyM_run (t := t) hv hst
        have hb1 : 1 ≤ st.1 := ((hb.rs v (row?_some hv).1).2.2.2 st (List.mem_of_getElem? hst)).1
        rw [eo] at kk
        show SD _ _ _ { nx := fun _ => eTick (match obeyM bk t (.run n) with | (true, t') => t' | (false, t') => goM bk t') = .non, rt := fun z _ => z = .im (eTick (match obeyM bk t (.run n) with | (true, t') => t' | (false, t') => goM bk t')) }
        rw [eo]
        refine sd_cons (ss_if (x := false) (et_w (EW.cast (ew_and (x := true) (y := false) (ET.cast (et_c2 (cmp_notN (d := .tup [.str "run", .str n])) (ee_v 3 (.tup [.str "run", .str n])) ee_non) rfl) fun _ => ew_and1 (ET.cast (et_c2 cmp_eqS (ee_ixT (i := 0) (d := .str "run") (ee_v 3 (.tup [.str "run", .str n])) ee_int rfl) ee_str) (by decide))) rfl)) (fun h => nomatch h) fun _ => sd_nil ?_)
        refine sd_cons (ss_if (x := false) (et_w (EW.cast (ew_and (x := true) (y := false) (ET.cast (et_c2 (cmp_notN (d := .tup [.str "run", .str n])) (ee_v 3 (.tup [.str "run", .str n])) ee_non) rfl) fun _ => ew_and1 (ET.cast (et_c2 cmp_eqS (ee_ixT (i := 0) (d := .str "run") (ee_v 3 (.tup [.str "run", .str n])) ee_int rfl) ee_str) (by decide))) rfl)) (fun h => nomatch h) fun _ => sd_nil ?_)
        refine sd_cons (ss_if (x := true) (et_w (EW.cast (ew_and (x := true) (y := true) (ET.cast (et_c2 (cmp_notN (d := .tup [.str "run", .str n])) (ee_v 3 (.tup [.str "run", .str n])) ee_non) rfl) fun _ => ew_and1 (ET.cast (et_c2 cmp_eqS (ee_ixT (i := 0) (d := .str "run") (ee_v 3 (.tup [.str "run", .str n])) ee_int rfl) ee_str) (by decide))) rfl)) (fun _ => ?_) fun h => nomatch h)
        refine sd_cons (ss_par 10 12 (d1 := .tup [.str n, .int 0, .int st.1]) (d2 := .bl true) (ea_cons (ee_tup (ea_cons (ee_ixT (i := 1) (d := .str n) (ee_v 3 (.tup [.str "run", .str n])) ee_int rfl) (ea_cons ee_int (ea_cons (ee_ixT (i := 0) (d := .int st.1) (ee_ixT (i := 0) (d := eStep st) (ee_call c1 hr (by decide) (ea_cons (ee_v 0 (partsL bk)) (ea_cons (ee_ixT (i := 1) (d := .str n) (ee_v 3 (.tup [.str "run", .str n])) ee_int rfl) ea_nil)) ⟨bk, n, v, hb, hv, rfl, rfl⟩) ee_int (atI_nat (j := 0) (by rw [List.getElem?_map, hst]; rfl))) ee_int rfl) ea_nil)))) (ea_cons ee_bl ea_nil)) (sd_nil ?_) S.nd)
        exact back ⟨⟨t.s.mode, t.s.lot, some n, 0, st.1, 0⟩, t.done, t.refused, t.mom⟩ true .no rfl kk (fun _ _ => hb1) (by show t.done.length ≤ _; rw [k4]; exact Nat.zero_le _) (by show t.mom.length ≤ _; omega)
end
end Fw
namespace Fw
open PySem PySem.Spec PyProof.Rows L2
def dblM (acc : List (List Str)) (n : Str) : List (List Str) := acc ++ acc.map (· ++ [n])
def lotsF (q : List Str) : List (List Str) := q.foldl dblM [[]]
def subsM (l : List Str) : List (List Str) := (List.range (l.length + 1)).flatMap fun m => sortL ((lotsF (sortS l)).filter fun k => decide (k.length = m))
theorem dbl_len : ∀ (q : List Str) (acc : List (List Str)), (q.foldl dblM acc).length = acc.length * 2 ^ q.length
  | [], acc => by simp
  | n :: q, acc => by
    rw [List.foldl_cons, dbl_len q, List.length_cons, Nat.pow_succ]
    unfold dblM
    rw [List.length_append, List.length_map, Nat.mul_comm (2 ^ q.length) 2, ← Nat.mul_assoc]
    congr 1
    omega
theorem lotsF_mem : ∀ (q : List Str) (acc : List (List Str)) (R : Str → Prop), (∀ k ∈ acc, ∀ z ∈ k, R z) → (∀ z ∈ q, R z) → ∀ k ∈ q.foldl dblM acc, ∀ z ∈ k, R z
  | [], _, _, h, _ => h
  | n :: q, acc, R, h, hq => lotsF_mem q _ R (fun k hk z hz => by
    unfold dblM at hk
    rcases List.mem_append.mp hk with y | y
    · exact h k y z hz
    · obtain ⟨k', hk', rfl⟩ := List.mem_map.mp y
      rcases List.mem_append.mp hz with y | y
      · exact h k' hk' z y
      · rw [List.mem_singleton.mp y]
        exact hq n List.mem_cons_self) fun z hz => hq z (List.mem_cons_of_mem _ hz)
theorem dbl_mlen : ∀ (q : List Str) (acc : List (List Str)) (m : Nat), (∀ k ∈ acc, k.length ≤ m) → ∀ k ∈ q.foldl dblM acc, k.length ≤ m + q.length
  | [], _, _, h => h
  | n :: q, acc, m, h => fun k hk => by
    have := dbl_mlen q (dblM acc n) (m + 1) (fun k hk => by
      unfold dblM at hk
      rcases List.mem_append.mp hk with y | y
      · exact Nat.le_succ_of_le (h k y)
      · obtain ⟨k', hk', rfl⟩ := List.mem_map.mp y
        rw [List.length_append, List.length_singleton]
        exact Nat.succ_le_succ (h k' hk')) k hk
    rw [List.length_cons]
    omega
theorem few_shape {q : List Str} (h : q.length ≤ 2) : q = [] ∨ (∃ a, q = [a]) ∨ ∃ a b, q = [a, b] := by
  match q, h with
  | [], _ => exact .inl rfl
  | [a], _ => exact .inr (.inl ⟨a, rfl⟩)
  | [a, b], _ => exact .inr (.inr ⟨a, b, rfl⟩)
theorem lotsF_0 {q : List Str} (h : q.length ≤ 2) : (lotsF q).filter (fun k => decide (k.length = 0)) = [[]] := by
  rcases few_shape h with rfl | ⟨a, rfl⟩ | ⟨a, b, rfl⟩ <;> rfl
theorem leD_one {a b : Str} (h : slt a b) : leD (eLot [a]) (eLot [b]) = true := by
  show (!PySem.W.dataLt (eLot [b]).py (eLot [a]).py) = true
  rw [lot_py, lot_py]
  have hn : ¬ slt b a := fun z => slt_irrefl _ (slt_trans h z)
  have e : PySem.W.dataLt (.tuple (([b] : List Str).map .str)) (.tuple (([a] : List Str).map .str)) = false := by
    rw [PySem.W.dataLt_tuple]
    show PyProof.Rows.lexLt itemOrd (PySem.W.keyToksAll [.str b]) (PySem.W.keyToksAll [.str a]) = false
    rw [PySem.W.dataLt_cons (by simp [PySem.W.alike]), PySem.W.dataLt_str]
    split
    · exact PyProof.Rows.lex_irrefl _
    · exact decide_eq_false hn
  rw [e]
  rfl
theorem subsM_eq {l : List Str} (h : l.length ≤ 2) (nd : l.Nodup) : subsM l = lotsM l := by
  have hs : (sortS l).length = l.length := (sortS_perm l).length_eq
  have hasc := sortS_asc nd
  unfold subsM lotsM
  rw [← hs] at h ⊢
  generalize sortS l = q at h hasc ⊢
  have one : ∀ x : List Str, sortL [x] = [x] := fun x => by unfold sortL; rw [List.mergeSort_singleton]
  rcases few_shape h with rfl | ⟨a, rfl⟩ | ⟨a, b, rfl⟩
  · show [0].flatMap _ = [0].flatMap _
    show sortL [[]] ++ [] = [[]]
    rw [one, List.append_nil]
  · show [0, 1].flatMap _ = [0, 1].flatMap _
    show sortL [[]] ++ (sortL [[a]] ++ []) = [[], [a]]
    rw [one, one]
    rfl
  · show [0, 1, 2].flatMap _ = [0, 1, 2].flatMap _
    show sortL [[]] ++ (sortL [[a], [b]] ++ (sortL [[a, b]] ++ [])) = [[], [a], [b], [a, b]]
    have hab : slt a b := (List.pairwise_cons.mp hasc).1 b (List.mem_singleton.mpr rfl)
    have : sortL [[a], [b]] = [[a], [b]] := List.mergeSort_of_pairwise (.cons (fun x hx => by rw [List.mem_singleton.mp hx]; exact leD_one hab) (List.pairwise_singleton _ _))
    rw [one, one, this]
    rfl
section
variable {P : Program} {w : World} {K : PySem.W.Frag} {mg : Str → Option Value} {base : Heap} {CB : Addr}
def T_subsL (ds : List D) (d : D) : Prop := ∃ l : List Str, (∀ z ∈ l, IsNm z) ∧ l.Nodup ∧ l.length ≤ 2 ∧ ds = [eStrs l] ∧ d = .lst ((lotsM l).map eLot)
theorem l_subsets {f : Addr} {fd : FuncData} (F : C8.Def K mg "_law_subsets" (top 62) f fd) (b : Binds K fd ["_law_names_here"] []) (B : Bt mg) : C8.Cal P w K mg base 1 "_law_subsets" (spP ⟨P, w, K⟩ T_subsL) [] := by
  have S : FnScope ["_law_names_here", "_law_lots", "_law_name", "_law_found", "_law_many", "_law_lot_here"] ["_law_names_here"] (C8.fnScope (top 62)) := C8.fnScope_by (by decide +kernel)
  refine calP T_subsL F b S (fun ds d ⟨_, _, _, _, h, _⟩ => by rw [h]; rfl) (by decide) fun cdv A outer s H E hr ds d h => ?_
  obtain ⟨l, hn, hd, hl, rfl, rfl⟩ := h
  have hs : (sortS l).length = l.length := (sortS_perm l).length_eq
  have hok : ∀ z ∈ sortS l, PyData.strOk z = true := fun z hz => (hn z ((sortS_perm l).mem_iff.mp hz)).ok
  have few : ∀ k, (((sortS l).take k).foldl dblM [[]]).length ≤ 4 := fun k => by
    rw [dbl_len]
    have : ((sortS l).take k).length ≤ 2 := by rw [List.length_take]; omega
    have := Nat.pow_le_pow_right (n := 2) (by decide) this
    simp only [List.length_singleton]
    omega
  refine sd_cons (ss_asg 1 (d := .lst (([[]] : List (List Str)).map eLot)) (EO.ee (eo_lst (ea_cons (ee_tup ea_nil) ea_nil))) ?_ S.nd)
  refine sd_cons (ss_for .str (fun n => [(2, .str n)]) (ei_lst (EO.ee (eo_sortS B.sorted hr.units (ee_v 0 (eStrs l)) (fun x hx => (hn x hx).ok)))) (fun k ss' => ∃ x2 x5, ss' = [.im (eStrs l), .im (.lst ((((sortS l).take k).foldl dblM [[]]).map eLot)), x2, .no, .no, x5]) ⟨_, _, rfl⟩ ?_ ?_ ?_)
  · rintro k n ss' hm ⟨x2, x5, rfl⟩
    exact gd_name 2 S.nd
  · rintro k n ss' hm ⟨x2, x5, rfl⟩
    have hk := few k
    refine sd_cons (ss_asg 1 (EO.ee (eo_cat (ee_v 1 (.lst ((((sortS l).take k).foldl dblM [[]]).map eLot))) (EO.ee (eo_lc0 (own := [("_law_lot_here", 5)]) eLot (fun q => eLot (q ++ [n])) (fun q => [(5, eLot q)]) S.nd (blkOk_by (N := ["_law_names_here", "_law_lots", "_law_name", "_law_found", "_law_many", "_law_lot_here"]) (sc := C8.fnScope (top 62)) (by decide +kernel)) (ei_lst (ee_v 1 (.lst ((((sortS l).take k).foldl dblM [[]]).map eLot)))) (by omega) (fun d hd s H C cl fp => gd_name 5 S.nd) (by simp) (fun d hd s H C cl fp => EE.cast (ee_catT (es := [.str n]) (ee_v 5 (eLot d)) (ee_tup (ea_cons (ee_v 2 (.str n)) ea_nil)) ?_) (by unfold eLot; rw [List.map_append]; rfl)))) ?_)) (sd_nil ⟨.im (.str n), x5, ?_⟩) S.nd)
    · have := dbl_mlen ((sortS l).take k) [[]] 0 (fun z hz => by rw [List.mem_singleton.mp hz]; exact Nat.le_refl _) d hd
      rw [List.length_take] at this
      simp only [List.length_map, List.length_singleton]
      omega
    · rw [List.length_map, List.length_map]
      omega
    · rw [take_snoc hm, List.foldl_append]
      show _ = [_, Slot.im (.lst ((dblM _ n).map eLot)), _, _, _, _]
      unfold dblM
      rw [List.map_append, List.map_map]
      rfl
  · rintro ss' ⟨x2, x5, rfl⟩
    rw [List.take_length]
    have few4 : (lotsF (sortS l)).length ≤ 4 := by
      have := few (sortS l).length
      rw [List.take_length] at this
      exact this
    refine sd_cons (ss_asg 3 (EO.ee (eo_lst ea_nil)) ?_ S.nd)
    have bnd : ∀ n, ((List.range n).flatMap fun m => sortL ((lotsF (sortS l)).filter fun k => decide (k.length = m))).length ≤ n * 4 := fun n => by
      induction n with
      | zero => simp
      | succ n ih =>
        have h1 := (sortL_perm ((lotsF (sortS l)).filter fun k => decide (k.length = n))).length_eq
        have h2 := List.length_filter_le (fun k => decide (k.length = n)) (lotsF (sortS l))
        rw [List.range_succ, List.flatMap_append, List.length_append, List.flatMap_cons, List.flatMap_nil, List.append_nil]
        omega
    refine sd_cons (ss_for (fun i : Nat => .int i) (fun m => [(4, .int m)]) (ei_rngI (n := ((l.length + 1 : Nat) : Int)) B.range ((ee_add (ee_lenL B.len (ee_v 0 (eStrs l))) ee_int).cast (by rw [List.length_map]; rfl)) (by omega) (by omega)) (fun i ss' => ∃ x4 x5, ss' = [.im (eStrs l), .im (.lst ((lotsF (sortS l)).map eLot)), x2, .im (.lst (((List.range i).flatMap fun m => sortL ((lotsF (sortS l)).filter fun k => decide (k.length = m))).map eLot)), x4, x5]) ⟨_, _, rfl⟩ ?_ ?_ ?_)
    · rintro i m ss' hm ⟨x4, x5, rfl⟩
      exact gd_name 4 S.nd
    · rintro i m ss' hm ⟨x4, x5, rfl⟩
      have hm2 : i < l.length + 1 ∧ m = i := by
        rw [Int.toNat_natCast] at hm
        obtain ⟨h1, h2⟩ := List.getElem?_eq_some_iff.mp hm
        rw [List.length_range] at h1
        rw [List.getElem_range] at h2
        exact ⟨h1, h2.symm⟩
      obtain ⟨hi, rfl⟩ := hm2
      have hb := bnd m
      refine sd_cons (ss_asg 3 (EO.ee (eo_cat (ee_v 3 (.lst (((List.range m).flatMap fun m => sortL ((lotsF (sortS l)).filter fun k => decide (k.length = m))).map eLot))) (EO.ee (eo_sortLots1 (xs := (lotsF (sortS l)).filter fun k => decide (k.length = m)) B.sorted hr.units (EO.ee (EO.cast (eo_lc (own := [("_law_lot_here", 5)]) eLot (fun k => decide (k.length = m)) eLot (fun q => [(5, eLot q)]) S.nd (blkOk_by (N := ["_law_names_here", "_law_lots", "_law_name", "_law_found", "_law_many", "_law_lot_here"]) (sc := C8.fnScope (top 62)) (by decide +kernel)) (ei_lst (ee_v 1 (.lst ((lotsF (sortS l)).map eLot)))) (by omega) (fun d hd s H C cl fp => gd_name 5 S.nd) (by simp) (fun d hd s H C cl fp => ets_one (ET.cast (et_c2 cmp_eqI (ee_lenT B.len (ee_v 5 (eLot d))) (ee_v 4 (.int (m : Nat)))) ?_)) (fun d hd _ s H C cl fp => ee_v 5 (eLot d))) rfl)) (fun k hk => lotsF_mem (sortS l) [[]] (fun z => PyData.strOk z = true) (fun k hk z hz => by rw [List.mem_singleton.mp hk] at hz; cases hz) hok k (List.mem_filter.mp hk).1) ?_)) ?_)) (sd_nil ⟨.im (.int (m : Nat)), x5, ?_⟩) S.nd)
      · rw [List.length_map, Bool.eq_iff_iff]
        simp only [decide_eq_true_eq]
        omega
      · cases m with
        | zero => exact .inr (lotsF_0 (by omega))
        | succ m =>
          refine .inl fun k hk z => ?_
          have := of_decide_eq_true (List.mem_filter.mp hk).2
          rw [z, List.length_nil] at this
          omega
      · have h1 := (sortL_perm ((lotsF (sortS l)).filter fun k => decide (k.length = m))).length_eq
        have h2 := List.length_filter_le (fun k => decide (k.length = m)) (lotsF (sortS l))
        rw [List.length_map, List.length_map]
        omega
      · have e : ((List.range (m + 1)).flatMap fun m => sortL ((lotsF (sortS l)).filter fun k => decide (k.length = m))) = ((List.range m).flatMap fun m => sortL ((lotsF (sortS l)).filter fun k => decide (k.length = m))) ++ sortL ((lotsF (sortS l)).filter fun k => decide (k.length = m)) := by
          rw [List.range_succ, List.flatMap_append, List.flatMap_cons, List.flatMap_nil, List.append_nil]
        rw [e, List.map_append]
        rfl
    · rintro ss' ⟨x4, x5, rfl⟩
      rw [List.length_range, Int.toNat_natCast]
      refine sd_cons (ss_ret (ee_v 3 (.lst (((List.range (l.length + 1)).flatMap fun m => sortL ((lotsF (sortS l)).filter fun k => decide (k.length = m))).map eLot))) ?_)
      rw [← subsM_eq hl hd]
      rfl
end
end Fw
namespace Fw
open PySem PySem.Spec PyProof.Rows L2
def ordersL (b : Book) : List (Option Ord) := (none :: (sortS (b.cmds.map Cmd.nm)).map fun n => some (.go n)) ++ ((sortS (b.rows.map Row.nm)).map fun n => some (.run n)) ++ [some .stop]
def inputsL (b : Book) : List Inp := (lotsM (b.alms.map Alm.nm)).flatMap fun l => (ordersL b).map (Inp.mk l)
theorem lotsM_len {l : List Str} (h : l.length ≤ 2) : (lotsM l).length ≤ 9 := by
  have bnd : ∀ n, ((List.range n).flatMap fun m => combM (sortS l) m).length ≤ n * 3 := fun n => by
    induction n with
    | zero => simp
    | succ n ih =>
      have := combM_len (sortS l) n
      have hsl : (sortS l).length ≤ 2 := by rw [(sortS_perm _).length_eq]; exact h
      rw [List.range_succ, List.flatMap_append, List.length_append, List.flatMap_cons, List.flatMap_nil, List.append_nil]
      omega
  have := bnd (l.length + 1)
  unfold lotsM
  omega
theorem ordersL_len {b : Book} (hb : BOk b) : (ordersL b).length ≤ 300 := by
  have e2 := hb.cf
  have e4 := hb.rf
  unfold ordersL
  simp only [List.length_cons, List.length_nil, List.length_map, List.length_append, (sortS_perm _).length_eq]
  omega
section
variable {P : Program} {w : World} {K : PySem.W.Frag} {mg : Str → Option Value} {base : Heap} {CB : Addr}
def T_ordersL (ds : List D) (d : D) : Prop := ∃ b, BOk b ∧ ds = [partsL b] ∧ d = .lst ((ordersL b).map eOrd)
theorem l_orders {f : Addr} {fd : FuncData} (F : C8.Def K mg "_law_orders" (top 63) f fd) (b : Binds K fd ["_law_parts"] []) (B : Bt mg) : C8.Cal P w K mg base 1 "_law_orders" (spP ⟨P, w, K⟩ T_ordersL) [] := by
  have S : FnScope ["_law_parts", "_law_found", "_law_name", "_law_command_here", "_law_row_here"] ["_law_parts"] (C8.fnScope (top 63)) := C8.fnScope_by (by decide +kernel)
  refine calP T_ordersL F b S (fun ds d ⟨_, _, h, _⟩ => by rw [h]; rfl) (by decide) fun cdv A outer s H E hr ds d h => ?_
  obtain ⟨bk, hb, rfl, rfl⟩ := h
  have e2 := hb.cf
  have e4 := hb.rf
  have nmc : ∀ x ∈ bk.cmds.map Cmd.nm, PyData.strOk x = true := fun x hx => by
    obtain ⟨r, hr', rfl⟩ := List.mem_map.mp hx
    exact (hb.ct r hr').1.ok
  have nmr : ∀ x ∈ bk.rows.map Row.nm, PyData.strOk x = true := fun x hx => by
    obtain ⟨r, hr', rfl⟩ := List.mem_map.mp hx
    exact (hb.rs r hr').1.ok
  refine sd_cons (ss_asg 1 (d := .lst ([.non] ++ (sortS (bk.cmds.map Cmd.nm)).map fun n => .tup [.str "do", .str n])) (EO.ee (eo_cat (EO.ee (eo_lst (ea_cons ee_non ea_nil))) (EO.ee (eo_lc0 (own := [("_law_name", 2)]) .str (fun n => .tup [.str "do", .str n]) (fun n => [(2, .str n)]) S.nd (blkOk_by (N := ["_law_parts", "_law_found", "_law_name", "_law_command_here", "_law_row_here"]) (sc := C8.fnScope (top 63)) (by decide +kernel)) (ei_lst (EO.ee (eo_sortS (xs := bk.cmds.map Cmd.nm) B.sorted hr.units (EO.ee (EO.cast (eo_lc0 (own := [("_law_command_here", 3)]) eCmd (fun r => .str r.nm) (fun c => [(3, eCmd c)]) S.nd (blkOk_by (N := ["_law_parts", "_law_found", "_law_name", "_law_command_here", "_law_row_here"]) (sc := C8.fnScope (top 63)) (by decide +kernel)) (ei_lst (ee_ixT (i := 3) (ee_v 0 (partsL bk)) ee_int rfl)) (by omega) (fun d hd s H C cl fp => gd_name 3 S.nd) (by simp) (fun d hd s H C cl fp => ee_ixT (i := 0) (ee_v 3 (eCmd d)) ee_int rfl)) (by rw [List.map_map]; rfl))) nmc))) (by rw [(sortS_perm _).length_eq, List.length_map]; omega) (fun d hd s H C cl fp => gd_name 2 S.nd) (by simp) (fun d hd s H C cl fp => ee_tup (ea_cons ee_str (ea_cons (ee_v 2 (.str d)) ea_nil))))) ?_)) ?_ S.nd)
  · simp only [List.length_cons, List.length_nil, List.length_map, (sortS_perm _).length_eq]
    omega
  refine sd_cons (ss_ret (EO.ee (EO.cast (eo_cat (EO.ee (eo_cat (ee_v 1 (.lst ([.non] ++ (sortS (bk.cmds.map Cmd.nm)).map fun n => .tup [.str "do", .str n]))) (EO.ee (eo_lc0 (own := [("_law_name", 2)]) .str (fun n => .tup [.str "run", .str n]) (fun n => [(2, .str n)]) S.nd (blkOk_by (N := ["_law_parts", "_law_found", "_law_name", "_law_command_here", "_law_row_here"]) (sc := C8.fnScope (top 63)) (by decide +kernel)) (ei_lst (EO.ee (eo_sortS (xs := bk.rows.map Row.nm) B.sorted hr.units (EO.ee (EO.cast (eo_lc0 (own := [("_law_row_here", 4)]) eRow (fun r => .str r.nm) (fun c => [(4, eRow c)]) S.nd (blkOk_by (N := ["_law_parts", "_law_found", "_law_name", "_law_command_here", "_law_row_here"]) (sc := C8.fnScope (top 63)) (by decide +kernel)) (ei_lst (ee_ixT (i := 5) (ee_v 0 (partsL bk)) ee_int rfl)) (by omega) (fun d hd s H C cl fp => gd_name 4 S.nd) (by simp) (fun d hd s H C cl fp => ee_ixT (i := 0) (ee_v 4 (eRow d)) ee_int rfl)) (by rw [List.map_map]; rfl))) nmr))) (by rw [(sortS_perm _).length_eq, List.length_map]; omega) (fun d hd s H C cl fp => gd_name 2 S.nd) (by simp) (fun d hd s H C cl fp => ee_tup (ea_cons ee_str (ea_cons (ee_v 2 (.str d)) ea_nil))))) ?_)) (EO.ee (eo_lst (ea_cons (ee_tup (ea_cons ee_str ea_nil)) ea_nil))) ?_) ?_)) rfl)
  · simp only [List.length_cons, List.length_nil, List.length_map, List.length_append, (sortS_perm _).length_eq]
    omega
  · simp only [List.length_cons, List.length_nil, List.length_map, List.length_append, (sortS_perm _).length_eq]
    omega
  · unfold ordersL
    simp only [List.map_append, List.map_cons, List.map_map, List.map_nil]
    rfl
def T_inputsL (ds : List D) (d : D) : Prop := ∃ b, BOk b ∧ b.alms.length ≤ 2 ∧ ds = [partsL b] ∧ d = .lst ((inputsL b).map eInp)
theorem l_inputs {f : Addr} {fd : FuncData} (F : C8.Def K mg "_law_inputs" (top 64) f fd) (b : Binds K fd ["_law_parts"] []) (c1 : C8.Cal P w K mg base 1 "_law_subsets" (spP ⟨P, w, K⟩ T_subsL) []) (c2 : C8.Cal P w K mg base 1 "_law_orders" (spP ⟨P, w, K⟩ T_ordersL) []) : C8.Cal P w K mg base 2 "_law_inputs" (spP ⟨P, w, K⟩ T_inputsL) [] := by
  have S : FnScope ["_law_parts", "_law_found", "_law_lot_here", "_law_alarm", "_law_order"] ["_law_parts"] (C8.fnScope (top 64)) := C8.fnScope_by (by decide +kernel)
  refine calP T_inputsL F b S (fun ds d ⟨_, _, _, h, _⟩ => by rw [h]; rfl) (by decide) fun cdv A outer s H E hr ds d h => ?_
  obtain ⟨bk, hb, ha, rfl, rfl⟩ := h
  have nma : ∀ z ∈ bk.alms.map Alm.nm, IsNm z := fun x hx => by
    obtain ⟨r, hr', rfl⟩ := List.mem_map.mp hx
    exact (hb.al r hr').1
  have lo := ordersL_len hb
  have ll : (lotsM (bk.alms.map Alm.nm)).length ≤ 9 := lotsM_len (by rw [List.length_map]; exact ha)
  have bnd : ∀ i, (((lotsM (bk.alms.map Alm.nm)).take i).flatMap fun l => (ordersL bk).map (Inp.mk l)).length ≤ 9 * 300 := fun i => by
    have : ∀ l : List (List Str), (l.flatMap fun l => (ordersL bk).map (Inp.mk l)).length = l.length * (ordersL bk).length := fun l => by
      induction l with
      | nil => simp
      | cons x r ih => rw [List.flatMap_cons, List.length_append, ih, List.length_cons, List.length_map]; rw [Nat.succ_mul]; omega
    rw [this]
    exact Nat.mul_le_mul (Nat.le_trans (by rw [List.length_take]; omega) ll) lo
  refine sd_cons (ss_asg 1 (EO.ee (eo_lst ea_nil)) ?_ S.nd)
  refine sd_cons (ss_for eLot (fun l => [(2, eLot l)]) (ei_lst (ee_call c1 hr (by decide) (ea_cons (EO.ee (EO.cast (eo_lc0 (own := [("_law_alarm", 3)]) eAlm (fun a => .str a.nm) (fun a => [(3, eAlm a)]) S.nd (blkOk_by (N := ["_law_parts", "_law_found", "_law_lot_here", "_law_alarm", "_law_order"]) (sc := C8.fnScope (top 64)) (by decide +kernel)) (ei_lst (ee_ixT (i := 4) (ee_v 0 (partsL bk)) ee_int rfl)) (by omega) (fun d hd s H C cl fp => gd_name 3 S.nd) (by simp) (fun d hd s H C cl fp => ee_ixT (i := 0) (ee_v 3 (eAlm d)) ee_int rfl)) (show _ = (bk.alms.map Alm.nm).map D.str by rw [List.map_map]; rfl))) ea_nil) ⟨bk.alms.map Alm.nm, nma, hb.an, by rw [List.length_map]; exact ha, rfl, rfl⟩)) (fun i ss' => ∃ x2 x3 x4, ss' = [.im (partsL bk), .im (.lst ((((lotsM (bk.alms.map Alm.nm)).take i).flatMap fun l => (ordersL bk).map (Inp.mk l)).map eInp)), x2, x3, x4]) ⟨_, _, _, rfl⟩ ?_ ?_ ?_)
  · rintro i l ss' hm ⟨x2, x3, x4, rfl⟩
    exact gd_name 2 S.nd
  · rintro i l ss' hm ⟨x2, x3, x4, rfl⟩
    have hb2 := bnd i
    refine sd_cons (ss_asg 1 (EO.ee (eo_cat (ee_v 1 (.lst ((((lotsM (bk.alms.map Alm.nm)).take i).flatMap fun l => (ordersL bk).map (Inp.mk l)).map eInp))) (EO.ee (eo_lc0 (own := [("_law_order", 4)]) eOrd (fun o => eInp ⟨l, o⟩) (fun o => [(4, eOrd o)]) S.nd (blkOk_by (N := ["_law_parts", "_law_found", "_law_lot_here", "_law_alarm", "_law_order"]) (sc := C8.fnScope (top 64)) (by decide +kernel)) (ei_lst (ee_call c2 hr (by decide) (ea_cons (ee_v 0 (partsL bk)) ea_nil) ⟨bk, hb, rfl, rfl⟩)) (by omega) (fun d hd s H C cl fp => gd_name 4 S.nd) (by simp) (fun d hd s H C cl fp => ee_tup (ea_cons (ee_v 2 (eLot l)) (ea_cons (ee_v 4 (eOrd d)) ea_nil))))) ?_)) (sd_nil ⟨.im (eLot l), x3, x4, ?_⟩) S.nd)
    · rw [List.length_map, List.length_map]
      omega
    · rw [take_snoc hm, List.flatMap_append, List.map_append]
      simp only [List.flatMap_cons, List.flatMap_nil, List.append_nil, List.map_map]
      rfl
  · rintro ss' ⟨x2, x3, x4, rfl⟩
    rw [List.take_length]
    exact sd_cons (ss_ret (ee_v 1 (.lst ((inputsL bk).map eInp))) rfl)
def T_isbL (ds : List D) (d : D) : Prop := ∃ b l, BOk b ∧ ds = [partsL b, eLot l] ∧ d = .bl (isBarredM b l)
theorem l_is_barred {f : Addr} {fd : FuncData} (F : C8.Def K mg "_law_is_barred" (top 65) f fd) (b : Binds K fd ["_law_parts", "_law_lot_here"] []) (B : Bt mg) : C8.Cal P w K mg base 1 "_law_is_barred" (spP ⟨P, w, K⟩ T_isbL) [] := by
  have S : FnScope ["_law_parts", "_law_lot_here", "_law_barred", "_law_hold"] ["_law_parts", "_law_lot_here"] (C8.fnScope (top 65)) := C8.fnScope_by (by decide +kernel)
  refine calP T_isbL F b S (fun ds d ⟨_, _, _, h, _⟩ => by rw [h]; rfl) (by decide) fun cdv A outer s H E hr ds d h => ?_
  obtain ⟨bk, l, hb, rfl, rfl⟩ := h
  have e1 := hb.bf
  refine sd_cons (ss_ret (EE.cast (ee_any B.any (EO.ee (EO.cast (eo_lc0 (own := [("_law_barred", 2)]) eLot (fun k => .bl (k.all fun h => decide (h ∈ l))) (fun k => [(2, eLot k)]) S.nd (blkOk_by (N := ["_law_parts", "_law_lot_here", "_law_barred", "_law_hold"]) (sc := C8.fnScope (top 65)) (by decide +kernel)) (ei_lst (ee_ixT (i := 2) (ee_v 0 (partsL bk)) ee_int rfl)) (by omega) (fun d hd s H C cl fp => gd_name 2 S.nd) (by simp) (fun d hd s H C cl fp => ?_)) (map_bl _ _)))) (by rw [any_id]; rfl)) rfl)
  have hd' := (hb.bt d hd).few
  exact EE.cast (ee_all B.all (EO.ee (EO.cast (eo_lc0 (own := [("_law_hold", 3)]) .str (fun h => .bl (decide (h ∈ l))) (fun h => [(3, .str h)]) S.nd (blkOk_by (by kernel_rfl!)) (ei_tup (ee_v 2 (eLot d))) (by omega) (fun d hd s H C cl fp => gd_name 3 S.nd) (by simp) (fun h hh s H C cl fp => ee_c2 cmp_inT (ee_v 3 (.str h)) (ee_v 1 (eLot l)))) (map_bl _ _)))) (by rw [all_id])
end
end Fw
namespace Fw
open PySem PySem.Spec PyProof.Rows L2
theorem eOrd_inj {a b : Option Ord} (h : eOrd a = eOrd b) : a = b := by
  cases a with
  | none =>
    cases b with
    | none => rfl
    | some y => cases y <;> cases h
  | some x =>
    cases b with
    | none => cases x <;> cases h
    | some y =>
      cases x <;> cases y <;> simp_all [eOrd] <;> exact absurd h.1 (by decide)
theorem eInp_inj {a b : Inp} (h : eInp a = eInp b) : a = b := by
  obtain ⟨l, o⟩ := a
  obtain ⟨l', o'⟩ := b
  have h := D.tup.inj h
  simp only [List.cons.injEq, and_true] at h
  rw [eLot_inj h.1, eOrd_inj h.2]
def idxM (ins : List Inp) (i : Inp) : Nat := ins.idxOf i
def isAheadM (ins one other : List Inp) : Bool := if one.length ≠ other.length then decide (one.length < other.length) else ltIs (one.map fun i => (idxM ins i : Int)) (other.map fun i => (idxM ins i : Int))
theorem idxM_get {ins : List Inp} {i : Inp} (h : i ∈ ins) : (ins.map eInp)[idxM ins i]? = some (eInp i) := by
  have hl := List.idxOf_lt_length_of_mem h
  unfold idxM
  rw [List.getElem?_map, List.getElem?_eq_getElem hl]
  show some (eInp (ins[ins.idxOf i])) = _
  rw [List.getElem_idxOf hl]
theorem idxM_no {ins : List Inp} {i : Inp} : ∀ k, k < idxM ins i → (ins.map eInp)[k]? ≠ some (eInp i) := by
  intro k hk h
  rw [List.getElem?_map] at h
  obtain ⟨z, hz, e⟩ := Option.map_eq_some_iff.mp h
  rw [eInp_inj e] at hz
  obtain ⟨hl, e2⟩ := List.getElem?_eq_some_iff.mp hz
  have := List.not_of_lt_findIdx (p := (· == i)) (xs := ins) (i := k) hk
  rw [e2] at this
  simp at this
theorem inpD_ok {b : Book} (hb : BOk b) {i : Inp} (h : InpOk b i) : D.ok 2 (eInp i) = true := by
  have h1 : D.ok 1 (eLot i.alms) = true := lot_ok fun z hz => (h.al.nm z hz).ok
  have h2 : D.ok 1 (eOrd i.ord) = true := by
    have ho := h.ord
    cases e : i.ord with
    | none => rfl
    | some o =>
      rw [e] at ho
      exact ordD_ok hb ho
  simp [eInp, D.ok, D.oks, h1, h2]
theorem inpsD_ok {b : Book} (hb : BOk b) {is : List Inp} (h : ∀ i ∈ is, InpOk b i) : D.oks 2 (is.map eInp) = true := by
  rw [D.oks_all, List.all_eq_true]
  intro d hd
  obtain ⟨i, hi, rfl⟩ := List.mem_map.mp hd
  exact inpD_ok hb (h i hi)
theorem lastMomM_snoc (b : Book) (is : List Inp) (i : Inp) : lastMomM b (is ++ [i]) = (tickT b (endM b (firstM b) is) i).mom := by
  unfold lastMomM
  rw [runM_snoc, List.getLast?_concat]
theorem endM_lok {b : Book} (hb : BOk b) : ∀ (is : List Inp) {s : Stg}, LOk b s → LOk b (endM b s is)
  | [], _, h => h
  | i :: r, _, h => endM_lok hb r (tickM_lok hb h i)
section
variable {P : Program} {w : World} {K : PySem.W.Frag} {mg : Str → Option Value} {base : Heap} {CB : Addr}
theorem l_told {f : Addr} {fd : FuncData} (F : C8.Def K mg "_law_told" (top 66) f fd) (b : Binds K fd ["_law_book_here"] []) (c1 : C8.Cal P w K mg base 7 "verdict" (spP ⟨P, w, K⟩ (T_verdict CB)) []) : C8.Cal P w K mg base 8 "_law_told" (spP ⟨P, w, K⟩ (T_verdict CB)) [] := by
  have S : FnScope ["_law_book_here"] ["_law_book_here"] (C8.fnScope (top 66)) := C8.fnScope_by (by decide +kernel)
  refine calP (T_verdict CB) F b S (fun ds d ⟨_, _, _, _, h, _⟩ => by rw [h]; rfl) (by decide) fun cdv A outer s H E hr ds d h => ?_
  obtain ⟨bk, hb, ha, hf, rfl, rfl⟩ := h
  exact sd_cons (ss_try (sd_cons (ss_ret (ee_call c1 hr (by decide) (ea_cons (ee_v 0 (dBook CB bk)) ea_nil) ⟨bk, hb, ha, hf, rfl, rfl⟩) rfl)))
def T_lastL (ds : List D) (d : D) : Prop := ∃ b, ∃ is : List Inp, BOk b ∧ (∀ i ∈ is, OrdOk b i.ord) ∧ ds = [partsL b, .lst (is.map eInp)] ∧ d = .tup [eStg (endM b (firstM b) is), .lst ((lastMomM b is).map eLot)]
theorem l_last {f : Addr} {fd : FuncData} (F : C8.Def K mg "_law_last_moments" (top 67) f fd) (b : Binds K fd ["_law_parts", "_law_history"] []) (cF : C8.Cal P w K mg base 1 "_law_first" (spP ⟨P, w, K⟩ T_firstL) []) (cT : C8.Cal P w K mg base 4 "_law_tick" (spP ⟨P, w, K⟩ T_tickL) []) : C8.Cal P w K mg base 5 "_law_last_moments" (spP ⟨P, w, K⟩ T_lastL) [] := by
  have S : FnScope ["_law_parts", "_law_history", "_law_standing", "_law_moments", "_law_lot_here", "_law_order", "_law_done", "_law_refused"] ["_law_parts", "_law_history"] (C8.fnScope (top 67)) := C8.fnScope_by (by decide +kernel)
  refine calP T_lastL F b S (fun ds d ⟨_, _, _, _, h, _⟩ => by rw [h]; rfl) (by decide) fun cdv A outer s H E hr ds d h => ?_
  obtain ⟨bk, is, hb, hi, rfl, rfl⟩ := h
  refine sd_cons (ss_par 2 3 (d1 := eStg (firstM bk)) (d2 := .lst ((lastMomM bk []).map eLot)) (ea_cons (ee_call cF hr (by decide) (ea_cons (ee_v 0 (partsL bk)) ea_nil) ⟨bk, hb, rfl, rfl⟩) (ea_cons (EO.ee (eo_lst (ea_cons (ee_ixT (i := 1) (d := eLot (firstM bk).lot) (ee_call cF hr (by decide) (ea_cons (ee_v 0 (partsL bk)) ea_nil) ⟨bk, hb, rfl, rfl⟩) ee_int rfl) ea_nil))) ea_nil)) ?_ S.nd)
  refine sd_cons (ss_for eInp (fun i => [(4, eLot i.alms), (5, eOrd i.ord)]) (ei_lst (ee_v 1 (.lst (is.map eInp)))) (fun i ss' => ∃ x4 x5 x6 x7, ss' = [.im (partsL bk), .im (.lst (is.map eInp)), .im (eStg (endM bk (firstM bk) (is.take i))), .im (.lst ((lastMomM bk (is.take i)).map eLot)), x4, x5, x6, x7]) ⟨_, _, _, _, rfl⟩ ?_ ?_ ?_)
  · rintro i d ss' hd ⟨x4, x5, x6, x7, rfl⟩
    exact gd_tup (gds_cons (gd_name 4 S.nd) (gds_cons (gd_name 5 S.nd) gds_nil))
  · rintro i d ss' hd ⟨x4, x5, x6, x7, rfl⟩
    have hok := endM_lok hb (is.take i) (firstM_lok hb)
    refine sd_cons (ss_tup (ee_call cT hr (by decide) (ea_cons (ee_v 0 (partsL bk)) (ea_cons (ee_v 2 (eStg (endM bk (firstM bk) (is.take i)))) (ea_cons (ee_v 4 (eLot d.alms)) (ea_cons (ee_v 5 (eOrd d.ord)) ea_nil)))) ⟨bk, _, d, hb, hok, hi d (List.mem_of_getElem? hd), rfl, rfl⟩) (gd_tup (gds_cons (gd_name 2 S.nd) (gds_cons (gd_name 6 S.nd) (gds_cons (gd_name 7 S.nd) (gds_cons (gd_name 3 S.nd) gds_nil))))) (sd_nil ⟨.im (eLot d.alms), .im (eOrd d.ord), .im (.lst ((tickT bk (endM bk (firstM bk) (is.take i)) d).done.map .str)), .im (.lst ((tickT bk (endM bk (firstM bk) (is.take i)) d).refused.map .str)), ?_⟩))
    rw [take_snoc hd, endM_snoc, lastMomM_snoc]
    rfl
  · rintro ss' ⟨x4, x5, x6, x7, rfl⟩
    rw [List.take_length]
    exact sd_cons (ss_ret (ee_tup (ea_cons (ee_v 2 (eStg (endM bk (firstM bk) is))) (ea_cons (ee_v 3 (.lst ((lastMomM bk is).map eLot))) ea_nil))) rfl)
def T_aheadL (ds : List D) (d : D) : Prop := ∃ b, ∃ ins one other : List Inp, BOk b ∧ (∀ i ∈ ins, InpOk b i) ∧ (∀ i ∈ one, i ∈ ins) ∧ (∀ i ∈ other, i ∈ ins) ∧ one.length ≤ 10000 ∧ other.length ≤ 10000 ∧ ds = [.lst (ins.map eInp), .lst (one.map eInp), .lst (other.map eInp)] ∧ d = .bl (isAheadM ins one other)
theorem l_ahead {f : Addr} {fd : FuncData} (F : C8.Def K mg "_law_is_ahead" (top 68) f fd) (b : Binds K fd ["_law_inputs_here", "_law_one", "_law_other"] []) (B : Bt mg) : C8.Cal P w K mg base 1 "_law_is_ahead" (spP ⟨P, w, K⟩ T_aheadL) [] := by
  have S : FnScope ["_law_inputs_here", "_law_one", "_law_other", "_law_told_here"] ["_law_inputs_here", "_law_one", "_law_other"] (C8.fnScope (top 68)) := C8.fnScope_by (by decide +kernel)
  refine calP T_aheadL F b S (fun ds d ⟨_, _, _, _, _, _, _, _, _, _, h, _⟩ => by rw [h]; rfl) (by decide) fun cdv A outer s H E hr ds d h => ?_
  obtain ⟨bk, ins, one, other, hb, hin, h1, h2, l1, l2, rfl, rfl⟩ := h
  by_cases e : one.length = other.length
  · have ea : isAheadM ins one other = ltIs (one.map fun i => (idxM ins i : Int)) (other.map fun i => (idxM ins i : Int)) := by
      unfold isAheadM
      rw [if_neg (by omega)]
    rw [ea]
    refine sd_cons (ss_if (x := false) (ET.cast (et_c2 cmp_neI (ee_lenL B.len (ee_v 1 (.lst (one.map eInp)))) (ee_lenL B.len (ee_v 2 (.lst (other.map eInp))))) (by rw [List.length_map, List.length_map, e]; simp)) (fun h => nomatch h) fun _ => sd_nil ?_)
    have lc : ∀ l : List Inp, (l.map fun i => D.int (idxM ins i)) = (l.map fun i => (idxM ins i : Int)).map .int := fun l => by rw [List.map_map]; rfl
    refine sd_cons (ss_ret (ee_c2 (cmp_ltIs hr.units) (EE.cast (EO.ee (eo_lc0 (own := [("_law_told_here", 3)]) eInp (fun i => .int (idxM ins i)) (fun i => [(3, eInp i)]) S.nd (blkOk_by (N := ["_law_inputs_here", "_law_one", "_law_other", "_law_told_here"]) (sc := C8.fnScope (top 68)) (by decide +kernel)) (ei_lst (ee_v 1 (.lst (one.map eInp)))) (by omega) (fun d hd s H C cl fp => gd_name 3 S.nd) (by simp) (fun d hd s H C cl fp => ee_index (Rm.u65 hr) (ee_v 0 (.lst (ins.map eInp))) (ee_v 3 (eInp d)) (inpD_ok hb (hin d (h1 d hd))) (inpsD_ok hb hin) (by decide) (by decide) (idxM_get (h1 d hd)) idxM_no))) (by rw [lc])) (EE.cast (EO.ee (eo_lc0 (own := [("_law_told_here", 3)]) eInp (fun i => .int (idxM ins i)) (fun i => [(3, eInp i)]) S.nd (blkOk_by (N := ["_law_inputs_here", "_law_one", "_law_other", "_law_told_here"]) (sc := C8.fnScope (top 68)) (by decide +kernel)) (ei_lst (ee_v 2 (.lst (other.map eInp)))) (by omega) (fun d hd s H C cl fp => gd_name 3 S.nd) (by simp) (fun d hd s H C cl fp => ee_index (Rm.u65 hr) (ee_v 0 (.lst (ins.map eInp))) (ee_v 3 (eInp d)) (inpD_ok hb (hin d (h2 d hd))) (inpsD_ok hb hin) (by decide) (by decide) (idxM_get (h2 d hd)) idxM_no))) (by rw [lc]))) rfl)
  · have ea : isAheadM ins one other = decide (one.length < other.length) := by
      unfold isAheadM
      rw [if_pos e]
    rw [ea]
    refine sd_cons (ss_if (x := true) (ET.cast (et_c2 cmp_neI (ee_lenL B.len (ee_v 1 (.lst (one.map eInp)))) (ee_lenL B.len (ee_v 2 (.lst (other.map eInp))))) (by rw [List.length_map, List.length_map, decide_eq_false (by omega)]; rfl)) (fun _ => ?_) fun h => nomatch h)
    refine sd_cons (ss_ret (EE.cast (ee_c2 cmp_lt (ee_lenL B.len (ee_v 1 (.lst (one.map eInp)))) (ee_lenL B.len (ee_v 2 (.lst (other.map eInp))))) ?_) rfl)
    rw [List.length_map, List.length_map]
    congr 1
    rw [Bool.eq_iff_iff]
    simp
end
end Fw
namespace Fw
open PySem PySem.Spec PyProof.Rows L2
/-! ### the search finds the first history to each standing -/
section
variable {b : Book}
def bsM (b : Book) : Nat := (inputsM b).length + 1
def rankM (b : Book) (h : List Inp) : Nat := h.foldl (fun a i => a * bsM b + (idxM (inputsM b) i + 1)) 0
theorem rankM_snoc (b : Book) (h : List Inp) (i : Inp) : rankM b (h ++ [i]) = rankM b h * bsM b + (idxM (inputsM b) i + 1) := by
  unfold rankM
  rw [List.foldl_append]
  rfl
theorem get_snoc {α : Type} {l : List α} {x y : α} {k : Nat} (h : (l ++ [x])[k]? = some y) : l[k]? = some y ∨ (k = l.length ∧ y = x) := by
  by_cases hk : k < l.length
  · rw [List.getElem?_append_left hk] at h
    exact .inl h
  · have : k = l.length := by
      have := (List.getElem?_eq_some_iff.mp h).1
      rw [List.length_append, List.length_singleton] at this
      omega
    subst this
    rw [List.getElem?_append_right (Nat.le_refl _), Nat.sub_self] at h
    exact .inr ⟨rfl, (Option.some.inj h).symm⟩
theorem get_old {α : Type} {l : List α} {x y : α} {k : Nat} (h : l[k]? = some y) : (l ++ [x])[k]? = some y := by
  rw [List.getElem?_append_left (List.getElem?_eq_some_iff.mp h).1]
  exact h
theorem get_last {α : Type} (l : List α) (x : α) : (l ++ [x])[l.length]? = some x := by
  rw [List.getElem?_append_right (Nat.le_refl _), Nat.sub_self]
  rfl
structure Way (b : Book) (n m : Nat) (st : BS) (ws : List (List Inp)) : Prop where
  len : ws.length = st.1.length
  len2 : st.2.length = st.1.length
  e : ∀ (k : Nat) (w : List Inp), ws[k]? = some w → st.1[k]? = some (endM b (firstM b) w) ∧ ∀ i ∈ w, i ∈ inputsM b
  par : ∀ (k : Nat) (w : List Inp), ws[k]? = some w → (k = 0 ∧ w = []) ∨ ∃ (j : Nat) (i : Inp) (w' : List Inp), j < k ∧ st.2[k]? = some (some (endM b (firstM b) w', i)) ∧ ws[j]? = some w' ∧ w = w' ++ [i]
  mono : ∀ (j k : Nat) (w w' : List Inp), j < k → ws[j]? = some w → ws[k]? = some w' → rankM b w < rankM b w'
  bound : ∀ (k : Nat) (w wn : List Inp), ws[k]? = some w → ws[n]? = some wn → rankM b w ≤ rankM b wn * bsM b + m
  dn : ∀ (j : Nat) (wj : List Inp) (t : Nat) (i : Inp), ws[j]? = some wj → (inputsM b)[t]? = some i → (j < n ∨ (j = n ∧ t < m)) → ∃ (k : Nat) (w : List Inp), st.1[k]? = some (tickM b (endM b (firstM b) wj) i) ∧ ws[k]? = some w ∧ rankM b w ≤ rankM b wj * bsM b + (idxM (inputsM b) i + 1)
theorem idx_le {ins : List Inp} {m : Nat} {i : Inp} (h : ins[m]? = some i) : idxM ins i ≤ m := by
  by_cases hle : idxM ins i ≤ m
  · exact hle
  · exact absurd (by rw [List.getElem?_map, h]; rfl) (idxM_no m (by omega))
theorem idx_at {ins : List Inp} {i : Inp} (h : i ∈ ins) : ins[idxM ins i]? = some i := by
  have := idxM_get h
  rw [List.getElem?_map] at this
  obtain ⟨z, hz, e⟩ := Option.map_eq_some_iff.mp this
  rw [hz, eInp_inj e]
theorem way_step {n m : Nat} {st : BS} {ws : List (List Inp)} {cur : Stg} {i : Inp} (h : Way b n m st ws) (hc : st.1[n]? = some cur) (hi : (inputsM b)[m]? = some i) : ∃ ws', Way b n (m + 1) (bStep b cur st i) ws' := by
  obtain ⟨wn, hwn⟩ : ∃ wn, ws[n]? = some wn := ⟨_, List.getElem?_eq_getElem (by rw [h.len]; exact (List.getElem?_eq_some_iff.mp hc).1)⟩
  have hcur : cur = endM b (firstM b) wn := Option.some.inj (hc.symm.trans (h.e n wn hwn).1)
  have him : i ∈ inputsM b := List.mem_of_getElem? hi
  have hil := idx_le hi
  unfold bStep
  by_cases hin : tickM b cur i ∈ st.1
  · rw [if_pos hin]
    refine ⟨ws, h.len, h.len2, h.e, h.par, h.mono, fun k w wn' hk hn => Nat.le_succ_of_le (h.bound k w wn' hk hn), fun j wj t i' hj ht hd => ?_⟩
    by_cases hold : j < n ∨ (j = n ∧ t < m)
    · exact h.dn j wj t i' hj ht hold
    · have ej : j = n := by omega
      have et : t = m := by omega
      subst ej
      subst et
      have ei : i' = i := Option.some.inj (ht.symm.trans hi)
      subst ei
      have ew : wj = wn := Option.some.inj (hj.symm.trans hwn)
      subst ew
      by_cases hidx : idxM (inputsM b) i' = t
      · obtain ⟨k, hk⟩ := List.mem_iff_getElem?.mp hin
        obtain ⟨w, hw⟩ : ∃ w, ws[k]? = some w := ⟨_, List.getElem?_eq_getElem (by rw [h.len]; exact (List.getElem?_eq_some_iff.mp hk).1)⟩
        refine ⟨k, w, by rw [← hcur]; exact hk, hw, ?_⟩
        have := h.bound k w wj hw hwn
        omega
      · exact h.dn j wj (idxM (inputsM b) i') i' hj (idx_at him) (.inr ⟨rfl, by omega⟩)
  · rw [if_neg hin]
    have hidx : idxM (inputsM b) i = m := by
      by_cases hidx : idxM (inputsM b) i = m
      · exact hidx
      · obtain ⟨k, w, hk, _⟩ := h.dn n wn (idxM (inputsM b) i) i hwn (idx_at him) (.inr ⟨rfl, by omega⟩)
        rw [← hcur] at hk
        exact absurd (List.mem_of_getElem? hk) hin
    have hnew : rankM b (wn ++ [i]) = rankM b wn * bsM b + (m + 1) := by rw [rankM_snoc, hidx]
    refine ⟨ws ++ [wn ++ [i]], by simp [h.len], by simp [h.len2], fun k w hk => ?_, fun k w hk => ?_, fun j k w w' hjk hj hk => ?_, fun k w wn' hk hn => ?_, fun j wj t i' hj ht hd => ?_⟩
    · rcases get_snoc hk with z | ⟨rfl, rfl⟩
      · exact ⟨get_old (h.e k w z).1, (h.e k w z).2⟩
      · refine ⟨?_, fun x hx => ?_⟩
        · rw [h.len, endM_snoc, ← hcur]
          exact get_last _ _
        · rcases List.mem_append.mp hx with z | z
          · exact (h.e n wn hwn).2 x z
          · rw [List.mem_singleton.mp z]
            exact him
    · rcases get_snoc hk with z | ⟨rfl, rfl⟩
      · rcases h.par k w z with q | ⟨j, i', w', q1, q2, q3, q4⟩
        · exact .inl q
        · exact .inr ⟨j, i', w', q1, get_old q2, get_old q3, q4⟩
      · refine .inr ⟨n, i, wn, (List.getElem?_eq_some_iff.mp hwn).1, ?_, get_old hwn, rfl⟩
        rw [← hcur, h.len, ← h.len2]
        exact get_last _ _
    · rcases get_snoc hk with z | ⟨rfl, rfl⟩
      · rcases get_snoc hj with y | ⟨rfl, rfl⟩
        · exact h.mono j k w w' hjk y z
        · have := (List.getElem?_eq_some_iff.mp z).1
          omega
      · rcases get_snoc hj with y | ⟨rfl, rfl⟩
        · have := h.bound j w wn y hwn
          rw [hnew]
          omega
        · omega
    · have ewn : wn' = wn := by
        rcases get_snoc hn with z | ⟨z, _⟩
        · exact Option.some.inj (z.symm.trans hwn)
        · have := (List.getElem?_eq_some_iff.mp hwn).1
          omega
      subst ewn
      rcases get_snoc hk with z | ⟨rfl, rfl⟩
      · have := h.bound k w wn' z hwn
        omega
      · rw [hnew]
        omega
    · rcases get_snoc hj with hj' | ⟨rfl, rfl⟩
      · by_cases hold : j < n ∨ (j = n ∧ t < m)
        · obtain ⟨k, w, q1, q2, q3⟩ := h.dn j wj t i' hj' ht hold
          exact ⟨k, w, get_old q1, get_old q2, q3⟩
        · have ej : j = n := by omega
          have et : t = m := by omega
          subst ej
          subst et
          have ei : i' = i := Option.some.inj (ht.symm.trans hi)
          subst ei
          have ew : wj = wn := Option.some.inj (hj'.symm.trans hwn)
          subst ew
          refine ⟨ws.length, wj ++ [i'], ?_, get_last _ _, by rw [hnew, hidx]; omega⟩
          rw [h.len, ← hcur]
          exact get_last _ _
      · have := (List.getElem?_eq_some_iff.mp hwn).1
        omega
theorem way_fold {n : Nat} {st : BS} {ws : List (List Inp)} {cur : Stg} (h : Way b n 0 st ws) (hc : st.1[n]? = some cur) : ∀ m, m ≤ (inputsM b).length → ∃ ws', Way b n m (((inputsM b).take m).foldl (bStep b cur) st) ws'
  | 0, _ => ⟨ws, h⟩
  | m + 1, hm => by
    obtain ⟨ws', h'⟩ := way_fold h hc m (by omega)
    obtain ⟨i, hi⟩ : ∃ i, (inputsM b)[m]? = some i := ⟨_, List.getElem?_eq_getElem (by omega)⟩
    rw [take_snoc hi, List.foldl_append]
    exact way_step h' (pre_get (fold_pre b cur _ st) hc) hi
theorem way_iter (b : Book) : ∀ n, ∃ ws, Way b n 0 (bIter b n) ws
  | 0 => by
    refine ⟨[[]], rfl, rfl, fun k w hk => ?_, fun k w hk => ?_, fun j k w w' hjk hj hk => ?_, fun k w wn hk hn => ?_, fun j wj t i hj ht hd => ?_⟩
    · cases k with
      | zero => cases hk; exact ⟨rfl, fun _ h => (nomatch h)⟩
      | succ k => cases hk
    · cases k with
      | zero => cases hk; exact .inl ⟨rfl, rfl⟩
      | succ k => cases hk
    · cases k with
      | zero => omega
      | succ k => cases hk
    · cases k with
      | zero => cases hk; exact Nat.zero_le _
      | succ k => cases hk
    · omega
  | n + 1 => by
    obtain ⟨ws, h⟩ := way_iter b n
    rw [bIter]
    cases e : (bIter b n).1[n]? with
    | none =>
      have hln : ws[n]? = none := by
        rw [List.getElem?_eq_none_iff] at e ⊢
        rw [h.len]
        exact e
      have hln' : ws[n + 1]? = none := by
        rw [List.getElem?_eq_none_iff] at hln ⊢
        omega
      refine ⟨ws, h.len, h.len2, h.e, h.par, h.mono, fun k w wn hk hn => ?_, fun j wj t i hj ht hd => ?_⟩
      · rw [hln'] at hn
        cases hn
      · by_cases ej : j = n
        · rw [ej, hln] at hj
          cases hj
        · exact h.dn j wj t i hj ht (.inl (by omega))
    | some cur =>
      obtain ⟨ws', h'⟩ := way_fold h e (inputsM b).length (Nat.le_refl _)
      rw [List.take_length] at h'
      refine ⟨ws', h'.len, h'.len2, h'.e, h'.par, h'.mono, fun k w wn hk hn => ?_, fun j wj t i hj ht hd => ?_⟩
      · obtain ⟨w0, hw0⟩ : ∃ w0, ws'[n]? = some w0 := ⟨_, List.getElem?_eq_getElem (by have := (List.getElem?_eq_some_iff.mp hn).1; omega)⟩
        have h1 := h'.bound k w w0 hk hw0
        have h2 := h'.mono n (n + 1) w0 wn (by omega) hw0 hn
        have h3 := Nat.mul_le_mul_right (bsM b) (Nat.succ_le_of_lt h2)
        rw [Nat.succ_mul] at h3
        have : bsM b = (inputsM b).length + 1 := rfl
        omega
      · refine h'.dn j wj t i hj ht ?_
        by_cases ej : j = n
        · exact .inr ⟨ej, (List.getElem?_eq_some_iff.mp ht).1⟩
        · exact .inl (by omega)
theorem way_bfs {b : Book} (hf : Few b) : ∃ ws, Way b 2000 0 (bfs b) ws ∧ (bfs b).1.length < 2000 := by
  obtain ⟨ws, h⟩ := way_iter b 2000
  exact ⟨ws, h, bIter_few hf 2000⟩
/-- each history's standing has been found, by a way that is not behind it -/
theorem way_more {n : Nat} {st : BS} {ws : List (List Inp)} (h : Way b n 0 st ws) (hl : st.1.length ≤ n) : ∀ (q p : List Inp) (k : Nat) (w : List Inp), ws[k]? = some w → endM b (firstM b) w = endM b (firstM b) p → rankM b w ≤ rankM b p → (∀ i ∈ q, i ∈ inputsM b) → ∃ (k' : Nat) (w' : List Inp), ws[k']? = some w' ∧ endM b (firstM b) w' = endM b (firstM b) (p ++ q) ∧ rankM b w' ≤ rankM b (p ++ q)
  | [], p, k, w, h1, h2, h3, _ => ⟨k, w, h1, by rw [List.append_nil]; exact h2, by rw [List.append_nil]; exact h3⟩
  | i :: q, p, k, w, h1, h2, h3, hq => by
    have hi := hq i List.mem_cons_self
    have hk : k < n := by
      have := (List.getElem?_eq_some_iff.mp h1).1
      rw [h.len] at this
      omega
    obtain ⟨k', w', g1, g2, g3⟩ := h.dn k w _ i h1 (idx_at hi) (.inl hk)
    have e := Option.some.inj (g1.symm.trans (h.e k' w' g2).1)
    have := way_more h hl q (p ++ [i]) k' w' g2 (by rw [endM_snoc, ← e, h2]) (by
      rw [rankM_snoc]
      exact Nat.le_trans g3 (Nat.add_le_add_right (Nat.mul_le_mul_right _ h3) _)) fun x hx => hq x (List.mem_cons_of_mem _ hx)
    rwa [List.append_assoc] at this
theorem way_all {n : Nat} {st : BS} {ws : List (List Inp)} (h : Way b n 0 st ws) (hl : st.1.length ≤ n) (h0 : ws[0]? = some []) {p : List Inp} (hp : ∀ i ∈ p, i ∈ inputsM b) : ∃ (k : Nat) (w : List Inp), ws[k]? = some w ∧ endM b (firstM b) w = endM b (firstM b) p ∧ rankM b w ≤ rankM b p := by
  have := way_more h hl p [] 0 [] h0 rfl (Nat.le_refl _) hp
  rwa [List.nil_append] at this
theorem way_back {n : Nat} {st : BS} {ws : List (List Inp)} (hs : BOkS b st) (h : Way b n 0 st ws) : ∀ (k : Nat) (w : List Inp), ws[k]? = some w → backM st.1 st.2 (k + 1) (endM b (firstM b) w) = w ∧ w.length ≤ k := fun k => by
  induction k using Nat.strongRecOn with
  | _ k ih =>
    intro w hw
    have hk := (h.e k w hw).1
    rcases h.par k w hw with ⟨rfl, rfl⟩ | ⟨j, i, w', hj, hp, hw', rfl⟩
    · refine ⟨?_, Nat.le_refl _⟩
      rw [backM, lookK_get hs.nd hk hs.hd.2]
    · obtain ⟨g1, g2⟩ := ih j hj w' hw'
      refine ⟨?_, by rw [List.length_append, List.length_singleton]; omega⟩
      rw [backM, lookK_get hs.nd hk hp]
      show backM st.1 st.2 k (endM b (firstM b) w') ++ [i] = _
      rw [back_fuel hs j k _ (h.e j w' hw').1 hj, g1]
end
end Fw
namespace Fw
open PySem PySem.Spec PyProof.Rows L2
open PySem.W
section
variable {b : Book}
def dig (b : Book) (a : Nat) (i : Inp) : Nat := a * bsM b + (idxM (inputsM b) i + 1)
theorem rankM_eq (b : Book) (h : List Inp) : rankM b h = h.foldl (dig b) 0 := rfl
theorem idx_lt {i : Inp} (h : i ∈ inputsM b) : idxM (inputsM b) i + 1 < bsM b := by
  have := List.idxOf_lt_length_of_mem h
  unfold bsM idxM
  omega
theorem dig_lt {a a' : Nat} {i j : Inp} (h : a < a') (hi : i ∈ inputsM b) : dig b a i < dig b a' j := by
  have h1 := idx_lt hi
  have h2 := Nat.mul_le_mul_right (bsM b) (Nat.succ_le_of_lt h)
  rw [Nat.succ_mul] at h2
  unfold dig
  omega
theorem dig_gt {a : Nat} {j : Inp} : a < dig b a j := by
  have h2 := Nat.mul_le_mul_left a (show 1 ≤ bsM b by unfold bsM; omega)
  unfold dig
  omega
theorem fold_lt : ∀ (m l : List Inp) (a a' : Nat), l.length ≤ m.length → (∀ i ∈ l, i ∈ inputsM b) → a < a' → l.foldl (dig b) a < m.foldl (dig b) a'
  | [], l, a, a', hl, _, h => by
    have : l = [] := List.length_eq_zero_iff.mp (by simpa using hl)
    rw [this]
    exact h
  | y :: m, l, a, a', hl, hi, h => by
    by_cases he : l.length ≤ m.length
    · rw [List.foldl_cons]
      exact fold_lt m l a _ he hi (Nat.lt_trans h dig_gt)
    · cases l with
      | nil => exact absurd (Nat.zero_le _) he
      | cons x l =>
        rw [List.foldl_cons, List.foldl_cons]
        exact fold_lt m l _ _ (by simpa using hl) (fun i hi' => hi i (List.mem_cons_of_mem _ hi')) (dig_lt h (hi x List.mem_cons_self))
theorem len_lt {l m : List Inp} (hl : l.length < m.length) (hi : ∀ i ∈ l, i ∈ inputsM b) : rankM b l < rankM b m := by
  cases m with
  | nil => cases hl
  | cons y m =>
    rw [rankM_eq, rankM_eq, List.foldl_cons]
    exact fold_lt m l 0 _ (by simpa using Nat.le_of_lt_succ hl) hi (Nat.lt_of_le_of_lt (Nat.zero_le _) dig_gt)
theorem ltIs_eq (l m : List Int) : ltIs l m = decide (l < m) := by
  unfold ltIs
  rw [dataLt_list]
  exact dataLt_ints l m
theorem same_lt : ∀ (l m : List Inp) (a : Nat), l.length = m.length → (∀ i ∈ l, i ∈ inputsM b) → (l.map fun i => (idxM (inputsM b) i : Int)) < (m.map fun i => (idxM (inputsM b) i : Int)) → l.foldl (dig b) a < m.foldl (dig b) a
  | [], [], a, _, _, h => absurd h (List.lt_irrefl _)
  | [], _ :: _, _, hl, _, _ => by cases hl
  | _ :: _, [], _, hl, _, _ => by cases hl
  | x :: l, y :: m, a, hl, hi, h => by
    rw [List.map_cons, List.map_cons, List.cons_lt_cons_iff] at h
    rw [List.foldl_cons, List.foldl_cons]
    rcases h with h | ⟨h1, h2⟩
    · refine fold_lt m l _ _ (by simpa using Nat.le_of_eq hl) (fun i hi' => hi i (List.mem_cons_of_mem _ hi')) ?_
      unfold dig
      omega
    · have e : dig b a x = dig b a y := by
        unfold dig
        omega
      rw [e]
      exact same_lt l m _ (by simpa using hl) (fun i hi' => hi i (List.mem_cons_of_mem _ hi')) h2
theorem ahead_rank {h h0 : List Inp} (hi : ∀ i ∈ h, i ∈ inputsM b) (e : isAheadM (inputsM b) h h0 = true) : rankM b h < rankM b h0 := by
  unfold isAheadM at e
  by_cases hl : h.length = h0.length
  · rw [if_neg (by omega), ltIs_eq] at e
    exact same_lt h h0 0 hl hi (of_decide_eq_true e)
  · rw [if_pos hl] at e
    exact len_lt (of_decide_eq_true e) hi
def badM (b : Book) (h : List Inp) : Bool := hasBarredM b (lastMomM b h)
theorem badM_nil (b : Book) : badM b [] = isBarredM b (firstM b).lot := by
  unfold badM hasBarredM
  show (isBarredM b (firstM b).lot || false) = _
  rw [Bool.or_false]
theorem badM_snoc (b : Book) (p : List Inp) (i : Inp) : badM b (p ++ [i]) = hasBarredM b (tickT b (endM b (firstM b) p) i).mom := by
  unfold badM
  rw [lastMomM_snoc]
theorem snoc_cases {α : Type} (h : List α) : h = [] ∨ ∃ p i, h = p ++ [i] := by
  cases e : h.reverse with
  | nil => exact .inl (List.reverse_eq_nil_iff.mp e)
  | cons i p =>
    refine .inr ⟨p.reverse, i, ?_⟩
    have := congrArg List.reverse e
    rwa [List.reverse_reverse, List.reverse_cons] at this
theorem vM_right (hf : Few b) :
    (∀ t, vM b = .inr t → ∀ h, (∀ i ∈ h, i ∈ inputsM b) → badM b h = false ∧ endM b (firstM b) h ∈ t) ∧
    (∀ h0, vM b = .inl h0 → (∀ i ∈ h0, i ∈ inputsM b) ∧ h0.length ≤ 2000 ∧ badM b h0 = true ∧ ∀ h, (∀ i ∈ h, i ∈ inputsM b) → badM b h = true → isAheadM (inputsM b) h h0 = false) := by
  obtain ⟨ws, W, hlen⟩ := way_bfs hf
  have hs : BOkS b (bfs b) := bIter_ok b 2000
  unfold vM
  generalize bfs b = st at W hlen hs ⊢
  have hw0 : ws[0]? = some [] := by
    have : 0 < ws.length := by
      rw [W.len]
      exact (List.getElem?_eq_some_iff.mp hs.hd.1).1
    obtain ⟨w, hw⟩ : ∃ w, ws[0]? = some w := ⟨_, List.getElem?_eq_getElem this⟩
    rcases W.par 0 w hw with ⟨_, rfl⟩ | ⟨j, _, _, hj, _⟩
    · exact hw
    · omega
  have none_ahead : ∀ h h0 : List Inp, (∀ i ∈ h, i ∈ inputsM b) → rankM b h0 ≤ rankM b h → isAheadM (inputsM b) h h0 = false := fun h h0 hi hr => by
    cases e : isAheadM (inputsM b) h h0 with
    | false => rfl
    | true =>
      have := ahead_rank hi e
      omega
  by_cases hbar : isBarredM b (firstM b).lot = true
  · rw [if_pos hbar]
    refine ⟨fun t ht => (by cases ht), fun h0 h0e => ?_⟩
    cases h0e
    refine ⟨fun _ h => (nomatch h), Nat.zero_le _, by rw [badM_nil]; exact hbar, fun h hi _ => none_ahead h [] hi (Nat.zero_le _)⟩
  · rw [if_neg hbar]
    have hbar : isBarredM b (firstM b).lot = false := by simpa using hbar
    cases e : st.1.findSome? fun s => (badAt b s).map fun i => (s, i) with
    | none =>
      refine ⟨fun t ht => ?_, fun h0 h0e => (by cases h0e)⟩
      cases ht
      have clean : ∀ s ∈ st.1, ∀ i ∈ inputsM b, hasBarredM b (tickT b s i).mom = false := fun s hs' i hi => by
        have := List.findSome?_eq_none_iff.mp e s hs'
        rw [Option.map_eq_none_iff] at this
        have := List.find?_eq_none.mp this i hi
        simpa using this
      have found : ∀ p : List Inp, (∀ i ∈ p, i ∈ inputsM b) → endM b (firstM b) p ∈ st.1 := fun p hp => by
        obtain ⟨k, w, h1, h2, _⟩ := way_all W (by omega) hw0 hp
        rw [← h2]
        exact List.mem_of_getElem? (W.e k w h1).1
      intro h hi
      refine ⟨?_, found h hi⟩
      rcases snoc_cases h with rfl | ⟨p, i, rfl⟩
      · rw [badM_nil]
        exact hbar
      · rw [badM_snoc]
        exact clean _ (found p fun x hx => hi x (List.mem_append_left _ hx)) i (hi i (List.mem_append_right _ (List.mem_singleton.mpr rfl)))
    | some si =>
      obtain ⟨s, i⟩ := si
      refine ⟨fun t ht => (by cases ht), fun h0 h0e => ?_⟩
      have h0e : Sum.inl (wayM st s ++ [i]) = (Sum.inl h0 : List Inp ⊕ List Stg) := h0e
      cases h0e
      obtain ⟨l1, a, l2, hx, hfa, hl1⟩ := List.findSome?_eq_some_iff.mp e
      obtain ⟨i2, hbad, e2⟩ := Option.map_eq_some_iff.mp hfa
      cases e2
      obtain ⟨hpi, as, bs, hins, has⟩ := List.find?_eq_some_iff_append.mp hbad
      have hj : st.1[l1.length]? = some s := by rw [hx, List.getElem?_append_right (Nat.le_refl _), Nat.sub_self]; rfl
      have hjl := (List.getElem?_eq_some_iff.mp hj).1
      obtain ⟨w, hw⟩ : ∃ w, ws[l1.length]? = some w := ⟨_, List.getElem?_eq_getElem (by rw [W.len]; exact hjl)⟩
      have hsw : s = endM b (firstM b) w := Option.some.inj (hj.symm.trans (W.e _ w hw).1)
      obtain ⟨hb1, hb2⟩ := way_back hs W _ w hw
      have hway : wayM st s = w := by
        unfold wayM
        rw [back_fuel hs l1.length _ s hj hjl, hsw]
        exact hb1
      rw [hway]
      have hii : i ∈ inputsM b := by rw [hins]; exact List.mem_append_right _ List.mem_cons_self
      have hat : (inputsM b)[as.length]? = some i := by rw [hins, List.getElem?_append_right (Nat.le_refl _), Nat.sub_self]; rfl
      refine ⟨fun x hx' => ?_, by rw [List.length_append, List.length_singleton]; omega, by rw [badM_snoc, ← hsw]; exact hpi, fun h hi hbd => none_ahead h _ hi ?_⟩
      · rcases List.mem_append.mp hx' with z | z
        · exact (W.e _ w hw).2 x z
        · rw [List.mem_singleton.mp z]
          exact hii
      · rcases snoc_cases h with rfl | ⟨p, i', rfl⟩
        · rw [badM_nil, hbar] at hbd
          cases hbd
        · rw [badM_snoc] at hbd
          have hi' : i' ∈ inputsM b := hi i' (List.mem_append_right _ (List.mem_singleton.mpr rfl))
          obtain ⟨k, wk, g1, g2, g3⟩ := way_all W (by omega) hw0 (p := p) fun x hx' => hi x (List.mem_append_left _ hx')
          have hk := (W.e k wk g1).1
          rw [g2] at hk
          have hkj : l1.length ≤ k := by
            by_cases hlt : k < l1.length
            · rw [hx, List.getElem?_append_left hlt] at hk
              have := hl1 _ (List.mem_of_getElem? hk)
              rw [Option.map_eq_none_iff] at this
              have := List.find?_eq_none.mp this i' hi'
              exact absurd hbd this
            · omega
          rw [rankM_snoc, rankM_snoc]
          by_cases ek : l1.length = k
          · subst ek
            have ew : wk = w := Option.some.inj (g1.symm.trans hw)
            subst ew
            have hle : idxM (inputsM b) i ≤ idxM (inputsM b) i' := by
              by_cases hlt : idxM (inputsM b) i' < as.length
              · have h1 := idx_at hi'
                generalize idxM (inputsM b) i' = z at h1 hlt ⊢
                rw [hins, List.getElem?_append_left hlt] at h1
                have h2 := has i' (List.mem_of_getElem? h1)
                rw [hsw, g2] at h2
                rw [hbd] at h2
                cases h2
              · have := idx_le hat
                omega
            have := Nat.mul_le_mul_right (bsM b) g3
            omega
          · have h1 := W.mono _ _ _ _ (show l1.length < k by omega) hw g1
            have h2 := Nat.mul_le_mul_right (bsM b) (show rankM b w + 1 ≤ rankM b p by omega)
            rw [Nat.add_mul] at h2
            have := idx_lt hii
            omega
end
end Fw
namespace Fw
open PySem PySem.Spec PyProof.Rows L2
/-! ### the book as it is kept -/
section
variable {b : Book}
theorem find_name {l : List Cmd} {x : Str} {c : Cmd} (h : l.find? (fun m => decide (m.nm = x)) = some c) : c ∈ l ∧ c.nm = x := ⟨List.mem_of_find?_eq_some h, by simpa using List.find?_some h⟩
theorem find_has {l : List Cmd} {x : Str} (h : x ∈ l.map Cmd.nm) : ∃ c, l.find? (fun m => decide (m.nm = x)) = some c := by
  obtain ⟨c, hc, rfl⟩ := List.mem_map.mp h
  cases e : l.find? (fun m => decide (m.nm = c.nm)) with
  | some d => exact ⟨d, rfl⟩
  | none =>
    have := List.find?_eq_none.mp e c hc
    simp at this
theorem pick_nm {l : List Cmd} : ∀ {q : List Str}, (∀ x ∈ q, x ∈ l.map Cmd.nm) → (q.filterMap fun x => l.find? fun m => decide (m.nm = x)).map Cmd.nm = q
  | [], _ => rfl
  | x :: q, h => by
    obtain ⟨c, hc⟩ := find_has (h x List.mem_cons_self)
    rw [List.filterMap_cons, hc]
    show c.nm :: _ = _
    rw [(find_name hc).2]
    congr 1
    exact pick_nm fun y hy => h y (List.mem_cons_of_mem _ hy)
theorem cmdsM_nm (l : List Cmd) : (cmdsM l).map Cmd.nm = sortS (l.map Cmd.nm) := pick_nm fun x hx => (sortS_perm _).mem_iff.mp hx
theorem cmdsM_mem {l : List Cmd} {c : Cmd} (h : c ∈ cmdsM l) : c ∈ l := by
  unfold cmdsM at h
  obtain ⟨x, _, hx⟩ := List.mem_filterMap.mp h
  exact (find_name hx).1
theorem cmdsM_nd {l : List Cmd} (nd : (l.map Cmd.nm).Nodup) : ((cmdsM l).map Cmd.nm).Nodup := by
  rw [cmdsM_nm]
  exact (sortS_perm _).nodup_iff.mpr nd
theorem cmdsM_find {l : List Cmd} (nd : (l.map Cmd.nm).Nodup) (x : Str) : (cmdsM l).find? (fun m => decide (m.nm = x)) = l.find? fun m => decide (m.nm = x) := by
  by_cases h : x ∈ l.map Cmd.nm
  · obtain ⟨c, hc⟩ := find_has h
    have hx : x ∈ (cmdsM l).map Cmd.nm := by
      rw [cmdsM_nm]
      exact (sortS_perm _).mem_iff.mpr h
    obtain ⟨d, hd⟩ := find_has hx
    obtain ⟨d1, d2⟩ := find_name hd
    have := find_nodup (f := Cmd.nm) nd (cmdsM_mem d1)
    rw [d2] at this
    rw [hd, this]
  · have h1 : (cmdsM l).find? (fun m => decide (m.nm = x)) = none := by
      cases e : (cmdsM l).find? (fun m => decide (m.nm = x)) with
      | none => rfl
      | some d =>
        obtain ⟨d1, d2⟩ := find_name e
        exact absurd (by rw [← d2]; exact List.mem_map_of_mem (cmdsM_mem d1)) h
    have h2 : l.find? (fun m => decide (m.nm = x)) = none := by
      cases e : l.find? (fun m => decide (m.nm = x)) with
      | none => rfl
      | some d =>
        obtain ⟨d1, d2⟩ := find_name e
        exact absurd (by rw [← d2]; exact List.mem_map_of_mem d1) h
    rw [h1, h2]
theorem LotOf.sorted {l holds : List Str} (h : LotOf l holds) : LotOf l (sortS holds) := ⟨h.toIsLot, fun z hz => (sortS_perm _).mem_iff.mpr (h.sub z hz)⟩
theorem Turned.sorted {on off holds : List Str} (h : Turned on off holds) : Turned on off (sortS holds) := ⟨h.von.sorted, h.voff.sorted, h.dj⟩
theorem norm_ok (hb : BOk b) : BOk (normB b) where
  hn := fun z hz => hb.hn z ((sortS_perm _).mem_iff.mp hz)
  hf := by
    show (sortS b.holds).length ≤ 100
    rw [(sortS_perm _).length_eq]
    exact hb.hf
  m0 := hb.m0
  mn := hb.mn
  mt := fun m hm => ⟨(hb.mt m hm).1, (hb.mt m hm).2.sorted⟩
  mf := hb.mf
  cn := cmdsM_nd hb.cn
  ct := fun c hc => by
    obtain ⟨h1, h2, h3⟩ := hb.ct c (cmdsM_mem hc)
    exact ⟨h1, h2.sorted, h3⟩
  cf := by
    have := congrArg List.length (cmdsM_nm b.cmds)
    rw [List.length_map, (sortS_perm _).length_eq, List.length_map] at this
    show (cmdsM b.cmds).length ≤ 100
    rw [this]
    exact hb.cf
  an := hb.an
  al := fun a ha => ⟨(hb.al a ha).1, (hb.al a ha).2.1.sorted, (hb.al a ha).2.2⟩
  af := hb.af
  rn := hb.rn
  rs := fun r hr => by
    obtain ⟨h1, h2, h3, h4⟩ := hb.rs r hr
    refine ⟨h1, h2, h3, fun s hs => ⟨(h4 s hs).1, (h4 s hs).2.1, ?_⟩⟩
    show s.2 ∈ (cmdsM b.cmds).map Cmd.nm
    rw [cmdsM_nm]
    exact (sortS_perm _).mem_iff.mpr (h4 s hs).2.2
  rf := hb.rf
  bt := fun l hl => (hb.bt l ((sortL_perm _).mem_iff.mp hl)).sorted
  bf := by
    show (sortL b.barred).length ≤ 100
    rw [(sortL_perm _).length_eq]
    exact hb.bf
  q := hb.q
theorem cmd?_norm (hb : BOk b) (x : Str) : (normB b).cmd? x = b.cmd? x := cmdsM_find hb.cn x
theorem cmdM_norm (hb : BOk b) (t : TSt) (x : Str) : cmdM (normB b) t x = cmdM b t x := by
  unfold cmdM
  rw [cmd?_norm hb]
  rfl
theorem goM_norm (hb : BOk b) (t : TSt) : goM (normB b) t = goM b t := by
  unfold goM
  simp only [cmdM_norm hb]
  rfl
theorem obeyM_norm (hb : BOk b) (t : TSt) (o : Ord) : obeyM (normB b) t o = obeyM b t o := by
  cases o with
  | stop => rfl
  | run n => rfl
  | go n =>
    unfold obeyM
    simp only [cmdM_norm hb]
theorem tickT_norm (hb : BOk b) (s : Stg) (i : Inp) : tickT (normB b) s i = tickT b s i := by
  have et : ∀ c : Book, tickT c s i = match i.ord with
      | none => goM c (waitM c (ansM c ⟨s, [], [], []⟩ i.alms))
      | some o => match obeyM c (ansM c ⟨s, [], [], []⟩ i.alms) o with
        | (true, t') => t'
        | (false, t') => goM c t' := fun c => rfl
  rw [et, et]
  have ea : ansM (normB b) ⟨s, [], [], []⟩ i.alms = ansM b ⟨s, [], [], []⟩ i.alms := rfl
  rw [ea]
  generalize ansM b ⟨s, [], [], []⟩ i.alms = t
  cases i.ord with
  | none =>
    show goM (normB b) (waitM b t) = goM b (waitM b t)
    rw [goM_norm hb]
  | some o =>
    show (match obeyM (normB b) t o with | (true, t') => t' | (false, t') => goM (normB b) t') = match obeyM b t o with | (true, t') => t' | (false, t') => goM b t'
    simp only [obeyM_norm hb, goM_norm hb]
theorem endM_norm (hb : BOk b) : ∀ (is : List Inp) (s : Stg), endM (normB b) s is = endM b s is
  | [], _ => rfl
  | i :: r, s => by
    rw [endM, endM]
    unfold tickM
    rw [tickT_norm hb, endM_norm hb r]
theorem firstM_norm : firstM (normB b) = firstM b := rfl
theorem lastMomM_norm (hb : BOk b) (is : List Inp) : lastMomM (normB b) is = lastMomM b is := by
  rcases snoc_cases is with rfl | ⟨p, i, rfl⟩
  · rfl
  · rw [lastMomM_snoc, lastMomM_snoc, firstM_norm, endM_norm hb, tickT_norm hb]
theorem isBarredM_norm (l : List Str) : isBarredM (normB b) l = isBarredM b l := by
  rw [Bool.eq_iff_iff]
  unfold isBarredM
  rw [List.any_eq_true, List.any_eq_true]
  constructor
  · rintro ⟨k, h1, h2⟩
    exact ⟨k, (sortL_perm _).mem_iff.mp h1, h2⟩
  · rintro ⟨k, h1, h2⟩
    exact ⟨k, (sortL_perm _).mem_iff.mpr h1, h2⟩
theorem hasBarredM_norm (ms : List (List Str)) : hasBarredM (normB b) ms = hasBarredM b ms := by
  unfold hasBarredM
  congr 1
  funext l
  exact isBarredM_norm l
theorem inputsM_norm : inputsM (normB b) = inputsL b := by
  have e : ordersM (normB b) = ordersL b := by
    unfold ordersM ordersL
    have : ((normB b).cmds.map fun c => some (Ord.go c.nm)) = (sortS (b.cmds.map Cmd.nm)).map fun n => some (Ord.go n) := by
      rw [← cmdsM_nm, List.map_map]
      rfl
    rw [this]
    rfl
  unfold inputsM inputsL
  rw [e]
  rfl
end
end Fw
namespace Fw
open PySem PySem.Spec PyProof.Rows L2
/-! ### how many standings can be reached -/
structure Small (b : Book) : Prop where
  h3 : b.holds.length ≤ 3
  hd : b.holds.Nodup
  m3 : b.modes.length ≤ 3
  r1 : b.rows.length ≤ 1
  s4 : ∀ r ∈ b.rows, r.steps.length ≤ 4
  t3 : ∀ r ∈ b.rows, ∀ s ∈ r.steps, s.1 ≤ 3
  q3 : ∀ k, b.quiet = some k → k ≤ 3
/-- what bounds a standing's numbers -/
structure Bnd (b : Book) (s : Stg) : Prop where
  l3 : ∀ r, s.row = some r → s.left ≤ 3
  s0 : 0 ≤ s.sil
  sq : ∀ q, b.quiet = some q → s.sil < q
  sn : b.quiet = none → s.sil = 0
section
variable {b : Book}
theorem beginM_u (hs : Small b) (t : TSt) (x : Str) (p : Nat) : ∀ r, (beginM b t x p).s.row = some r → (beginM b t x p).s.left ≤ 3 := by
  intro r h
  unfold beginM at h ⊢
  split at h
  · cases h
  · rename_i st e
    rw [Option.bind_eq_some_iff] at e
    obtain ⟨v, e1, e2⟩ := e
    exact hs.t3 v (row?_some e1).1 st (List.mem_of_getElem? e2)
theorem goM_u (hs : Small b) {t : TSt} (h : ∀ r, t.s.row = some r → t.s.left ≤ 3) : ∀ r, (goM b t).s.row = some r → (goM b t).s.left ≤ 3 := by
  unfold goM
  split
  · exact h
  · rename_i r e
    have h1 := h r e
    split
    · split
      · exact h
      · exact beginM_u hs _ _ _
    · intro _ _
      show t.s.left - 1 ≤ 3
      omega
theorem ans1_u (alms : List Str) (t : TSt) (a : Alm) (h : ∀ r, t.s.row = some r → t.s.left ≤ 3) : (∀ r, (ans1 b alms t a).s.row = some r → (ans1 b alms t a).s.left ≤ 3) ∧ (ans1 b alms t a).s.sil = t.s.sil := by
  unfold ans1
  split
  · exact ⟨fun _ h => (nomatch h), rfl⟩
  · exact ⟨h, rfl⟩
theorem ansF_u (alms : List Str) : ∀ (l : List Alm) (t : TSt), (∀ r, t.s.row = some r → t.s.left ≤ 3) → (∀ r, (l.foldl (ans1 b alms) t).s.row = some r → (l.foldl (ans1 b alms) t).s.left ≤ 3) ∧ (l.foldl (ans1 b alms) t).s.sil = t.s.sil
  | [], t, h => ⟨h, rfl⟩
  | a :: l, t, h => by
    obtain ⟨g1, g2⟩ := ans1_u (b := b) alms t a h
    obtain ⟨k1, k2⟩ := ansF_u alms l (ans1 b alms t a) g1
    exact ⟨k1, k2.trans g2⟩
theorem obeyM_u (hs : Small b) {t : TSt} (h : ∀ r, t.s.row = some r → t.s.left ≤ 3) (o : Ord) : ∀ r, (obeyM b t o).2.s.row = some r → (obeyM b t o).2.s.left ≤ 3 := by
  cases o with
  | stop => exact fun _ h => (nomatch h)
  | run n => exact beginM_u hs _ _ _
  | go n =>
    have e : obeyM b t (.go n) = match cmdM b ⟨{ t.s with sil := 0 }, t.done, t.refused, t.mom⟩ n with
      | (true, t') => (false, t')
      | (false, t') => (false, ⟨t'.s, t'.done, t'.refused ++ [n], t'.mom⟩) := rfl
    obtain ⟨r1, r2, r3⟩ := cmdM_run b ⟨{ t.s with sil := 0 }, t.done, t.refused, t.mom⟩ n
    rw [e]
    generalize cmdM b ⟨{ t.s with sil := 0 }, t.done, t.refused, t.mom⟩ n = z at r1 r3 ⊢
    obtain ⟨c, t2⟩ := z
    have r1 : t2.s.row = t.s.row := r1
    have r3 : t2.s.left = t.s.left := r3
    cases c
    · intro r hr
      show t2.s.left ≤ 3
      rw [r3]
      exact h r (r1.symm.trans hr)
    · intro r hr
      show t2.s.left ≤ 3
      rw [r3]
      exact h r (r1.symm.trans hr)
theorem waitM_u {t : TSt} (h : ∀ r, t.s.row = some r → t.s.left ≤ 3) (h0 : 0 ≤ t.s.sil) (hq : ∀ q, b.quiet = some q → t.s.sil < q) (hn : b.quiet = none → t.s.sil = 0) : (∀ r, (waitM b t).s.row = some r → (waitM b t).s.left ≤ 3) ∧ 0 ≤ (waitM b t).s.sil ∧ (∀ q, b.quiet = some q → (waitM b t).s.sil < q) ∧ (b.quiet = none → (waitM b t).s.sil = 0) := by
  unfold waitM
  split
  · exact ⟨h, h0, hq, hn⟩
  · rename_i q e
    have hq' := hq q e
    by_cases hc : t.s.sil + 1 = q
    · rw [if_pos hc]
      refine ⟨fun _ h => (nomatch h), Int.le_refl _, fun q' e' => ?_, fun _ => rfl⟩
      rw [e] at e'
      cases e'
      show 0 < q
      omega
    · rw [if_neg hc]
      refine ⟨h, by show 0 ≤ t.s.sil + 1; omega, fun q' e' => ?_, fun e' => by rw [e] at e'; cases e'⟩
      rw [e] at e'
      cases e'
      show t.s.sil + 1 < q
      omega
theorem tickM_bnd (hb : BOk b) (hs : Small b) {s : Stg} (hl : LOk b s) (h : Bnd b s) (i : Inp) : Bnd b (tickM b s i) := by
  obtain ⟨k1, k2⟩ := ansF_u (b := b) i.alms b.alms ⟨s, [], [], []⟩ h.l3
  have k1 : ∀ r, (ansM b ⟨s, [], [], []⟩ i.alms).s.row = some r → (ansM b ⟨s, [], [], []⟩ i.alms).s.left ≤ 3 := k1
  have k2 : (ansM b ⟨s, [], [], []⟩ i.alms).s.sil = s.sil := k2
  obtain ⟨_, p1, _⟩ := ansF_more hb i.alms b.alms ⟨s, [], [], []⟩ (fun _ h => h) hl.toSOk hl.l1
  have p1 : ∀ r, (ansM b ⟨s, [], [], []⟩ i.alms).s.row = some r → 1 ≤ (ansM b ⟨s, [], [], []⟩ i.alms).s.left := p1
  have et : tickM b s i = (match i.ord with
      | none => goM b (waitM b (ansM b ⟨s, [], [], []⟩ i.alms))
      | some o => match obeyM b (ansM b ⟨s, [], [], []⟩ i.alms) o with
        | (true, t') => t'
        | (false, t') => goM b t' : TSt).s := rfl
  rw [et]
  clear et
  generalize ansM b ⟨s, [], [], []⟩ i.alms = t at k1 k2 p1 ⊢
  have mk : ∀ t' : TSt, (∀ r, t'.s.row = some r → t'.s.left ≤ 3) → 0 ≤ t'.s.sil → (∀ q, b.quiet = some q → t'.s.sil < q) → (b.quiet = none → t'.s.sil = 0) → Bnd b t'.s := fun t' a1 a2 a3 a4 => ⟨a1, a2, a3, a4⟩
  cases i.ord with
  | none =>
    obtain ⟨w1, w2, w3, w4⟩ := waitM_u (b := b) (t := t) k1 (by rw [k2]; exact h.s0) (fun q hq => by rw [k2]; exact h.sq q hq) (fun hq => by rw [k2]; exact h.sn hq)
    refine mk (goM b (waitM b t)) (goM_u hs w1) ?_ ?_ ?_
    · rw [goM_sil]
      exact w2
    · rw [goM_sil]
      exact w3
    · rw [goM_sil]
      exact w4
  | some o =>
    have g1 := obeyM_u hs k1 o
    have g2 := (obeyM_l hb p1 o).2
    show Bnd b (match obeyM b t o with | (true, t') => t' | (false, t') => goM b t' : TSt).s
    generalize obeyM b t o = z at g1 g2 ⊢
    obtain ⟨c, t2⟩ := z
    have g2 : t2.s.sil = 0 := g2
    have hq : ∀ q, b.quiet = some q → (0 : Int) < q := fun q hq => by
      have := (hb.q q hq).1
      omega
    cases c
    · refine mk (goM b t2) (goM_u hs g1) ?_ ?_ ?_
      · rw [goM_sil, g2]
        exact Int.le_refl _
      · rw [goM_sil, g2]
        exact hq
      · rw [goM_sil, g2]
        exact fun _ => rfl
    · exact mk t2 g1 (by rw [g2]; exact Int.le_refl _) (by rw [g2]; exact hq) (fun _ => g2)
theorem firstM_bnd (hb : BOk b) : Bnd b (firstM b) := by
  have e : (firstM b).row = none ∧ (firstM b).sil = 0 := by
    unfold firstM
    split <;> exact ⟨rfl, rfl⟩
  refine ⟨fun r h => ?_, ?_, fun q hq => ?_, fun _ => e.2⟩
  · rw [e.1] at h
    cases h
  · rw [e.2]
    exact Int.le_refl _
  · rw [e.2]
    have := (hb.q q hq).1
    omega
theorem endM_bnd (hb : BOk b) (hs : Small b) : ∀ (is : List Inp) {s : Stg}, LOk b s → Bnd b s → Bnd b (endM b s is)
  | [], _, _, h => h
  | i :: r, _, hl, h => endM_bnd hb hs r (tickM_lok hb hl i) (tickM_bnd hb hs hl h i)
/-! the list of all that can be -/
def runsAll (b : Book) : List (Option Str × Nat × Int) := (none, 0, 0) :: b.rows.flatMap fun r => (List.range 4).flatMap fun p => [1, 2, 3].map fun lf => (some r.nm, p, lf)
def stgAll (b : Book) : List Stg := (b.modes.map Mode.nm).flatMap fun m => (lotsF (sortS b.holds)).flatMap fun l => (runsAll b).flatMap fun r => [0, 1, 2].map fun s => ⟨m, l, r.1, r.2.1, r.2.2, s⟩
theorem flat_le {α β : Type} (f : α → List β) (n : Nat) : ∀ l : List α, (∀ x ∈ l, (f x).length ≤ n) → (l.flatMap f).length ≤ l.length * n
  | [], _ => by simp
  | x :: l, h => by
    have h1 := h x List.mem_cons_self
    have h2 := flat_le f n l fun y hy => h y (List.mem_cons_of_mem _ hy)
    rw [List.flatMap_cons, List.length_append, List.length_cons, Nat.succ_mul]
    omega
theorem runsAll_len (hs : Small b) : (runsAll b).length ≤ 13 := by
  have := flat_le (fun r : Row => (List.range 4).flatMap fun p => [(1 : Int), 2, 3].map fun lf => (some r.nm, p, lf)) 12 b.rows (fun x _ => by
    refine Nat.le_trans (flat_le _ 3 _ fun y _ => ?_) (by decide)
    exact Nat.le_refl _)
  have h1 := Nat.mul_le_mul_right 12 hs.r1
  show (_ :: b.rows.flatMap fun r => (List.range 4).flatMap fun p => [1, 2, 3].map fun lf => (some r.nm, p, lf)).length ≤ 13
  rw [List.length_cons]
  omega
theorem stgAll_len (hs : Small b) : (stgAll b).length ≤ 936 := by
  have hl : (lotsF (sortS b.holds)).length ≤ 8 := by
    unfold lotsF
    rw [dbl_len]
    have h1 : (sortS b.holds).length ≤ 3 := by rw [(sortS_perm _).length_eq]; exact hs.h3
    have := Nat.pow_le_pow_right (n := 2) (by decide) h1
    simp only [List.length_singleton]
    omega
  have hr := runsAll_len hs
  have h1 : ∀ m l, ((runsAll b).flatMap fun r => [(0 : Int), 1, 2].map fun s => (⟨m, l, r.1, r.2.1, r.2.2, s⟩ : Stg)).length ≤ 39 := fun m l => by
    refine Nat.le_trans (flat_le _ 3 _ fun y _ => Nat.le_refl _) ?_
    exact Nat.mul_le_mul_right 3 hr
  have h2 : ∀ m, ((lotsF (sortS b.holds)).flatMap fun l => (runsAll b).flatMap fun r => [(0 : Int), 1, 2].map fun s => (⟨m, l, r.1, r.2.1, r.2.2, s⟩ : Stg)).length ≤ 312 := fun m => by
    refine Nat.le_trans (flat_le _ 39 _ fun y _ => h1 m y) ?_
    exact Nat.mul_le_mul_right 39 hl
  refine Nat.le_trans (flat_le _ 312 _ fun y _ => h2 y) ?_
  rw [List.length_map]
  exact Nat.mul_le_mul_right 312 hs.m3
theorem filt_snoc (q : List Str) (n : Str) (p : Str → Bool) : (q ++ [n]).filter p = q.filter p ++ if p n then [n] else [] := by
  rw [List.filter_append]
  congr 1
  rw [List.filter_cons]
  rfl
theorem filt_mem (p : Str → Bool) : ∀ (q : List Str) (acc : List (List Str)) (r : List Str), r ∈ acc → r ++ q.filter p ∈ q.foldl dblM acc
  | [], acc, r, h => by rw [List.filter_nil, List.append_nil]; exact h
  | n :: q, acc, r, h => by
    rw [List.foldl_cons, List.filter_cons]
    by_cases hp : p n = true
    · rw [if_pos hp]
      have := filt_mem p q (dblM acc n) (r ++ [n]) (List.mem_append_right _ (List.mem_map_of_mem h))
      rwa [List.append_assoc] at this
    · rw [if_neg hp]
      exact filt_mem p q (dblM acc n) r (List.mem_append_left _ h)
theorem lot_in (hd : b.holds.Nodup) {l : List Str} (h : LotOf l b.holds) : l ∈ lotsF (sortS b.holds) := by
  have e : l = (sortS b.holds).filter fun x => decide (x ∈ l) := by
    refine asc_uniq h.asc ((sortS_asc hd).filter _) fun x => ?_
    rw [List.mem_filter, decide_eq_true_eq]
    exact ⟨fun hx => ⟨(sortS_perm _).mem_iff.mpr (h.sub x hx), hx⟩, fun hx => hx.2⟩
  have := filt_mem (fun x => decide (x ∈ l)) (sortS b.holds) [[]] [] (List.mem_singleton.mpr rfl)
  rw [List.nil_append, ← e] at this
  exact this
theorem few_of (hb : BOk b) (hs : Small b) : Few b := by
  intro l nd hr
  refine Nat.lt_of_le_of_lt (nd.length_le_of_subset fun s h => ?_) (Nat.lt_of_le_of_lt (stgAll_len hs) (by decide))
  obtain ⟨is, _, rfl⟩ := hr s h
  have h1 := endM_lok hb is (firstM_lok hb)
  have h2 := endM_bnd hb hs is (firstM_lok hb) (firstM_bnd hb)
  generalize endM b (firstM b) is = s at h1 h2
  refine List.mem_flatMap.mpr ⟨s.mode, h1.md, List.mem_flatMap.mpr ⟨s.lot, lot_in hs.hd h1.lt, List.mem_flatMap.mpr ⟨(s.row, s.place, s.left), ?_, List.mem_map.mpr ⟨s.sil, ?_, rfl⟩⟩⟩⟩
  · cases e : s.row with
    | none =>
      obtain ⟨e1, e2⟩ := h1.rw0 e
      rw [e1, e2]
      exact List.mem_cons_self
    | some r =>
      obtain ⟨v, hv, hp⟩ := h1.rw1 r e
      obtain ⟨hv1, hv2⟩ := row?_some hv
      have h4 := hs.s4 v hv1
      have g1 := h1.l1 r e
      have g2 := h2.l3 r e
      refine List.mem_cons_of_mem _ (List.mem_flatMap.mpr ⟨v, hv1, List.mem_flatMap.mpr ⟨s.place, List.mem_range.mpr (by omega), List.mem_map.mpr ⟨s.left, ?_, by rw [hv2]⟩⟩⟩)
      have : s.left = 1 ∨ s.left = 2 ∨ s.left = 3 := by omega
      rcases this with z | z | z <;> rw [z] <;> simp
  · have h0 := h2.s0
    have : s.sil = 0 ∨ s.sil = 1 ∨ s.sil = 2 := by
      cases e : b.quiet with
      | none => exact .inl (h2.sn e)
      | some q =>
        have g1 := h2.sq q e
        have g2 := hs.q3 q e
        omega
    rcases this with z | z | z <;> rw [z] <;> simp
end
end Fw
namespace Fw
open PySem PySem.Spec PyProof.Rows L2
/-! ### the book of the law -/
theorem range_getD (l : List Str) : (List.range l.length).map (fun k => l.getD k "") = l := by
  refine List.ext_getElem (by simp) fun i h1 h2 => ?_
  simp [List.getD, List.getElem?_eq_getElem h2]
section
variable (g : Nat → Int)
def lawB : Book := { rawM g with barred := addBar (addBar (barredL g) (lotNM (holdsM g) (g 186))) (lotNM (holdsM g) (g 187)) }
theorem mod_rng (x m : Int) (hm : 0 < m) : 0 ≤ x % m ∧ x % m < m := ⟨Int.emod_nonneg _ (by omega), Int.emod_lt_of_pos _ hm⟩
theorem holds_ok : (∀ z ∈ holdsM g, IsNm z) ∧ (holdsM g).Nodup ∧ 1 ≤ (holdsM g).length ∧ (holdsM g).length ≤ 3 := by
  have h := mod_rng (g 1) 3 (by decide)
  obtain ⟨h1, h2, h3⟩ := namesM_ok (g 0) (many := 1 + (g 1 % 3).toNat) (by omega)
  unfold holdsM
  exact ⟨h1, h2, by omega, by omega⟩
theorem named_ok : (∀ z ∈ namedM g, IsNm z) ∧ (namedM g).Nodup ∧ 1 ≤ (namedM g).length ∧ (namedM g).length ≤ 3 := by
  have h := mod_rng (g 1 / 8) 3 (by decide)
  obtain ⟨h1, h2, h3⟩ := namesM_ok (g 2) (many := 1 + (g 1 / 8 % 3).toNat) (by omega)
  unfold namedM
  exact ⟨h1, h2, by omega, by omega⟩
theorem modes_nm : (modesL g).map Mode.nm = namedM g := by
  unfold modesL
  rw [List.map_map]
  exact range_getD (namedM g)
theorem cmds_nm : (cmdsL g).map Cmd.nm = namesM (g 8) (g 9 % 4).toNat := by
  unfold cmdsL namesM
  rw [List.map_map]
  rfl
theorem alms_nm : (almsL g).map Alm.nm = namesM (g 34) (g 9 / 16 % 3).toNat := by
  unfold almsL namesM
  rw [List.map_map]
  rfl
theorem rows_nd : ((rowsL g).map Row.nm).Nodup ∧ (rowsL g).length ≤ 1 ∧ ∀ r ∈ rowsL g, IsNm r.nm := by
  have h := mod_rng (g 44) 2 (by decide)
  obtain ⟨h1, h2, h3⟩ := namesM_ok (g 43) (many := (g 44 % 2).toNat) (by omega)
  unfold rowsL
  split
  · exact ⟨List.nodup_nil, Nat.zero_le _, fun _ h => (nomatch h)⟩
  · have e : ((List.range (g 44 % 2).toNat).map (rowOf g)).map Row.nm = namesM (g 43) (g 44 % 2).toNat := by
      unfold namesM
      rw [List.map_map]
      rfl
    refine ⟨by rw [e]; exact h2, by rw [List.length_map, List.length_range]; omega, fun r hr => ?_⟩
    exact h1 _ (by rw [← e]; exact List.mem_map_of_mem hr)
theorem addBar_ok {acc : List (List Str)} {l hs : List Str} (h : (∀ k ∈ acc, LotOf k hs) ∧ acc.Nodup ∧ ∀ k ∈ acc, 1 < k.length) (hl : LotOf l hs) : (∀ k ∈ addBar acc l, LotOf k hs) ∧ (addBar acc l).Nodup ∧ ∀ k ∈ addBar acc l, 1 < k.length := by
  obtain ⟨h1, h2, h3⟩ := h
  unfold addBar
  split
  · rename_i hc
    refine ⟨fun k hk => ?_, ?_, fun k hk => ?_⟩
    · rcases List.mem_append.mp hk with z | z
      · exact h1 k z
      · rw [List.mem_singleton.mp z]
        exact hl
    · rw [List.nodup_append]
      exact ⟨h2, List.pairwise_singleton _ _, fun a ha c hc' e => hc.2 (by rw [← List.mem_singleton.mp hc', ← e]; exact ha)⟩
    · rcases List.mem_append.mp hk with z | z
      · exact h3 k z
      · rw [List.mem_singleton.mp z]
        exact hc.1
  · exact ⟨h1, h2, h3⟩
theorem barred_ok : ((∀ k ∈ barredL g, LotOf k (holdsM g)) ∧ (barredL g).Nodup ∧ ∀ k ∈ barredL g, 1 < k.length) ∧ (barredL g).length ≤ 3 := by
  obtain ⟨hn, hd, h1, h3⟩ := holds_ok g
  have hg := mod_rng (g 57) 4 (by decide)
  have key : ∀ (q : List Nat) (acc : List (List Str)), ((∀ k ∈ acc, LotOf k (holdsM g)) ∧ acc.Nodup ∧ ∀ k ∈ acc, 1 < k.length) → ((∀ k ∈ q.foldl (fun acc k => addBar acc (lotNM (holdsM g) (g (58 + k)))) acc, LotOf k (holdsM g)) ∧ (q.foldl (fun acc k => addBar acc (lotNM (holdsM g) (g (58 + k)))) acc).Nodup ∧ ∀ k ∈ q.foldl (fun acc k => addBar acc (lotNM (holdsM g) (g (58 + k)))) acc, 1 < k.length) ∧ (q.foldl (fun acc k => addBar acc (lotNM (holdsM g) (g (58 + k)))) acc).length ≤ acc.length + q.length := fun q => by
    induction q with
    | nil => exact fun acc h => ⟨h, Nat.le_refl _⟩
    | cons x q ih =>
      intro acc h
      obtain ⟨k1, k2⟩ := ih (addBar acc (lotNM (holdsM g) (g (58 + x)))) (addBar_ok h (lotNM_lot hd hn (by omega) _))
      have := addBar_len acc (lotNM (holdsM g) (g (58 + x)))
      refine ⟨k1, ?_⟩
      rw [List.foldl_cons, List.length_cons]
      omega
  obtain ⟨k1, k2⟩ := key (List.range (g 57 % 4).toNat) [] ⟨fun _ h => (nomatch h), List.nodup_nil, fun _ h => (nomatch h)⟩
  refine ⟨k1, Nat.le_trans k2 ?_⟩
  rw [List.length_range, List.length_nil]
  omega
theorem toM_mode {v : Int} {x : Str} (h : toM (namedM g) v = some x) : x ∈ (modesL g).map Mode.nm := by
  rw [modes_nm]
  exact toM_mem h
theorem lawB_ok : BRaw (lawB g) ∧ Small (lawB g) ∧ (lawB g).alms.length ≤ 2 := by
  obtain ⟨hn, hd, h1, h3⟩ := holds_ok g
  obtain ⟨mn, md, m1, m3⟩ := named_ok g
  have c4 := mod_rng (g 9) 4 (by decide)
  have a3 := mod_rng (g 9 / 16) 3 (by decide)
  obtain ⟨cn1, cn2, cn3⟩ := namesM_ok (g 8) (many := (g 9 % 4).toNat) (by omega)
  obtain ⟨an1, an2, an3⟩ := namesM_ok (g 34) (many := (g 9 / 16 % 3).toNat) (by omega)
  obtain ⟨rn1, rn2, rn3⟩ := rows_nd g
  have ml : (modesL g).length = (namedM g).length := by unfold modesL; rw [List.length_map, List.length_range]
  have cl : (cmdsL g).length ≤ 3 := by unfold cmdsL; rw [List.length_map, List.length_range]; omega
  have al : (almsL g).length ≤ 2 := by unfold almsL; rw [List.length_map, List.length_range]; omega
  have tn : ∀ on off : Int, Turned (lotNM (holdsM g) on) (offM (holdsM g) on off) (holdsM g) := fun on off => turnedNM hd hn (by omega) on off
  have steps : ∀ r ∈ rowsL g, 0 < r.steps.length ∧ r.steps.length ≤ 4 ∧ ∀ s ∈ r.steps, 1 ≤ s.1 ∧ s.1 ≤ 3 ∧ s.2 ∈ (cmdsL g).map Cmd.nm := by
    intro r hr
    unfold rowsL at hr
    by_cases hc : (cmdsL g).length = 0
    · rw [if_pos hc] at hr
      cases hr
    · rw [if_neg hc] at hr
      obtain ⟨j, _, rfl⟩ := List.mem_map.mp hr
      have h4 := mod_rng (g (45 + 4 * j) / 64) 4 (by decide)
      refine ⟨?_, ?_, fun s hs => ?_⟩
      · show 0 < ((List.range _).map _).length
        rw [List.length_map, List.length_range]
        omega
      · show ((List.range _).map _).length ≤ 4
        rw [List.length_map, List.length_range]
        omega
      · obtain ⟨i, _, rfl⟩ := List.mem_map.mp hs
        have h5 := mod_rng (g (45 + 4 * j + i)) 3 (by decide)
        have h6 := mod_rng (g (45 + 4 * j + i) / 9) ((cmdsL g).length : Int) (by omega)
        refine ⟨by show 1 ≤ 1 + g (45 + 4 * j + i) % 3; omega, by show 1 + g (45 + 4 * j + i) % 3 ≤ 3; omega, ?_⟩
        have hlt : (g (45 + 4 * j + i) / 9 % ((cmdsL g).length : Int)).toNat < (cmdsL g).length := by omega
        show (((cmdsL g)[(g (45 + 4 * j + i) / 9 % ((cmdsL g).length : Int)).toNat]?).map Cmd.nm).getD "" ∈ _
        rw [List.getElem?_eq_getElem hlt]
        exact List.mem_map_of_mem (List.getElem_mem hlt)
  obtain ⟨bk, bk3⟩ := barred_ok g
  have b1 := addBar_ok bk (lotNM_lot hd hn (by omega) (g 186))
  have b2 := addBar_ok b1 (lotNM_lot hd hn (by omega) (g 187))
  have bl : (lawB g).barred.length ≤ 5 := by
    have q1 := addBar_len (barredL g) (lotNM (holdsM g) (g 186))
    have q2 := addBar_len (addBar (barredL g) (lotNM (holdsM g) (g 186))) (lotNM (holdsM g) (g 187))
    show (addBar (addBar (barredL g) (lotNM (holdsM g) (g 186))) (lotNM (holdsM g) (g 187))).length ≤ 5
    omega
  have qq : ∀ k, quietL g = some k → 1 ≤ k ∧ k ≤ 3 := by
    intro k hk
    have := mod_rng (g 61) 3 (by decide)
    unfold quietL at hk
    split at hk
    · cases hk
    · cases hk
      omega
  have modeT : ∀ m ∈ modesL g, IsNm m.nm ∧ Turned m.von m.voff (holdsM g) := by
    intro m hm
    refine ⟨mn _ (by rw [← modes_nm]; exact List.mem_map_of_mem hm), ?_⟩
    obtain ⟨k, _, rfl⟩ := List.mem_map.mp hm
    exact tn _ _
  have cmdT : ∀ c ∈ cmdsL g, IsNm c.nm ∧ Turned c.von c.voff (holdsM g) ∧ (∀ x, c.to = some x → x ∈ (modesL g).map Mode.nm) ∧ LotOf c.ms ((modesL g).map Mode.nm) := by
    intro c hc
    refine ⟨cn1 _ (by rw [← cmds_nm]; exact List.mem_map_of_mem hc), ?_⟩
    obtain ⟨k, _, rfl⟩ := List.mem_map.mp hc
    refine ⟨tn _ _, fun x hx => toM_mode g hx, ?_⟩
    rw [modes_nm]
    exact lotNM_lot md mn (by omega) _
  have almT : ∀ c ∈ almsL g, IsNm c.nm ∧ Turned c.von c.voff (holdsM g) ∧ (∀ x, c.to = some x → x ∈ (modesL g).map Mode.nm) := by
    intro c hc
    refine ⟨an1 _ (by rw [← alms_nm]; exact List.mem_map_of_mem hc), ?_⟩
    obtain ⟨k, _, rfl⟩ := List.mem_map.mp hc
    exact ⟨tn _ _, fun x hx => toM_mode g hx⟩
  have ok : BOk (lawB g) := {
    hn := hn
    hf := by show (holdsM g).length ≤ 100; omega
    m0 := fun h => by
      have h : modesL g = [] := h
      rw [h] at ml
      simp at ml
      omega
    mn := by show ((modesL g).map Mode.nm).Nodup; rw [modes_nm]; exact md
    mt := modeT
    mf := by show (modesL g).length ≤ 100; omega
    cn := by show ((cmdsL g).map Cmd.nm).Nodup; rw [cmds_nm]; exact cn2
    ct := fun c hc => ⟨(cmdT c hc).1, (cmdT c hc).2.1, (cmdT c hc).2.2.1, (cmdT c hc).2.2.2.few⟩
    cf := by show (cmdsL g).length ≤ 100; omega
    an := by show ((almsL g).map Alm.nm).Nodup; rw [alms_nm]; exact an2
    al := almT
    af := by show (almsL g).length ≤ 100; omega
    rn := rn1
    rs := fun r hr => ⟨rn3 r hr, (steps r hr).1, by have := (steps r hr).2.1; omega, fun s hs => by
      obtain ⟨q1, q2, q3⟩ := (steps r hr).2.2 s hs
      exact ⟨q1, by omega, q3⟩⟩
    rf := by show (rowsL g).length ≤ 100; omega
    bt := b2.1
    bf := by omega
    q := fun k hk => ⟨(qq k hk).1, by have := (qq k hk).2; omega⟩ }
  refine ⟨{ toBOk := ok, h1 := h1, h6 := by show (holdsM g).length ≤ 6; omega, hd := hd, m5 := by show (modesL g).length ≤ 5; omega, c8 := by show (cmdsL g).length ≤ 8; omega, a4 := by show (almsL g).length ≤ 4; omega, r3 := by show (rowsL g).length ≤ 3; omega, bnd := b2.2.1, b8 := by omega, b1 := b2.2.2, cm := fun c hc => (cmdT c hc).2.2.2, s4 := fun r hr => (steps r hr).2.1 }, { h3 := h3, hd := hd, m3 := by show (modesL g).length ≤ 3; omega, r1 := rn2, s4 := fun r hr => (steps r hr).2.1, t3 := fun r hr s hs => ((steps r hr).2.2 s hs).2.1, q3 := fun k hk => (qq k hk).2 }, al⟩
end
theorem Small.norm {b : Book} (h : Small b) : Small (normB b) where
  h3 := by show (sortS b.holds).length ≤ 3; rw [(sortS_perm _).length_eq]; exact h.h3
  hd := (sortS_perm _).nodup_iff.mpr h.hd
  m3 := h.m3
  r1 := h.r1
  s4 := h.s4
  t3 := h.t3
  q3 := h.q3
end Fw
namespace Fw
open PySem PySem.Spec PyProof.Rows L2
theorem eStg_inj {s t : Stg} (h : eStg s = eStg t) : s = t := nk_stg_inj (by rw [h])
theorem stg_ok {b : Book} (hb : BOk b) {s : Stg} (h : SOk b s) : D.ok 2 (eStg s) = true := by
  obtain ⟨m, hm, em⟩ := List.mem_map.mp h.md
  have h1 : PyData.strOk s.mode = true := by rw [← em]; exact (hb.mt m hm).1.ok
  have h2 : D.ok 1 (eLot s.lot) = true := lot_ok fun z hz => (h.lt.nm z hz).ok
  have h3 : D.ok 1 (eOpt s.row) = true := by
    cases e : s.row with
    | none => rfl
    | some r =>
      obtain ⟨v, hv, _⟩ := h.rw1 r e
      obtain ⟨q1, q2⟩ := row?_some hv
      show PyData.strOk r = true
      rw [← q2]
      exact (hb.rs v q1).1.ok
  simp [eStg, D.ok, D.oks, h1, h2, h3]
theorem stgs_ok {b : Book} (hb : BOk b) {t : List Stg} (h : ∀ s ∈ t, SOk b s) : D.oks 2 (t.map eStg) = true := by
  rw [D.oks_all, List.all_eq_true]
  intro d hd
  obtain ⟨s, hs, rfl⟩ := List.mem_map.mp hd
  exact stg_ok hb (h s hs)
theorem vM_tbl {b : Book} {t : List Stg} (h : vM b = .inr t) : ∀ s ∈ t, Reach b s := by
  have hs : BOkS b (bfs b) := bIter_ok b 2000
  unfold vM at h
  generalize bfs b = st at h hs
  split at h
  · cases h
  · split at h
    · cases h
    · cases h
      exact hs.rc
theorem inputsL_pos (b : Book) : 0 < (inputsL b).length := by
  have h1 : [] ∈ lotsM (b.alms.map Alm.nm) := by
    unfold lotsM
    exact List.mem_flatMap.mpr ⟨0, List.mem_range.mpr (Nat.succ_pos _), by unfold combM; exact List.mem_singleton.mpr rfl⟩
  have h2 : none ∈ ordersL b := by
    unfold ordersL
    exact List.mem_append_left _ (List.mem_append_left _ List.mem_cons_self)
  exact List.length_pos_of_mem (List.mem_flatMap.mpr ⟨[], h1, List.mem_map_of_mem h2⟩ : (⟨[], none⟩ : Inp) ∈ inputsL b)
/-- a drawn history -/
def histAt (g : Nat → Int) (ins : List Inp) (at_ j : Nat) : Inp := (ins[(g (at_ + 1 + j) % (ins.length : Int)).toNat]?).getD ⟨[], none⟩
def histM (g : Nat → Int) (ins : List Inp) (at_ : Nat) : List Inp := (List.range (g at_ % 10).toNat).map (histAt g ins at_)
theorem histAt_get (g : Nat → Int) {ins : List Inp} (h : 0 < ins.length) (at_ j : Nat) : ins[(g (at_ + 1 + j) % (ins.length : Int)).toNat]? = some (histAt g ins at_ j) ∧ histAt g ins at_ j ∈ ins := by
  have := mod_rng (g (at_ + 1 + j)) (ins.length : Int) (by omega)
  have hl : (g (at_ + 1 + j) % (ins.length : Int)).toNat < ins.length := by omega
  unfold histAt
  rw [List.getElem?_eq_getElem hl]
  exact ⟨rfl, List.getElem_mem hl⟩
theorem histM_mem (g : Nat → Int) {ins : List Inp} (h : 0 < ins.length) (at_ : Nat) : ∀ i ∈ histM g ins at_, i ∈ ins := fun i hi => by
  obtain ⟨j, _, rfl⟩ := List.mem_map.mp hi
  exact (histAt_get g h at_ j).2
theorem histM_len (g : Nat → Int) (ins : List Inp) (at_ : Nat) : (histM g ins at_).length ≤ 9 := by
  have := mod_rng (g at_) 10 (by decide)
  unfold histM
  rw [List.length_map, List.length_range]
  omega
theorem momLast_len {b : Book} (hb : BOk b) (is : List Inp) : (lastMomM b is).length ≤ 1000 := by
  rcases snoc_cases is with rfl | ⟨p, i, rfl⟩
  · show 1 ≤ 1000
    decide
  · rw [lastMomM_snoc]
    exact mom_len hb (endM_ok hb p (firstM_ok hb)) i
end Fw
namespace Fw
open PySem PySem.Spec PyProof.Rows L2
section
variable {P : Program} {w : World} {K : PySem.W.Frag} {mg : Str → Option Value} {base : Heap} {CB : Addr}
def lawN : List Str := ["_law_script", "_law_numbers_here", "_law_parts", "_law_k", "_law_lot_here", "_law_book_here", "_law_told_here", "_law_inputs_here", "_law_at", "_law_history", "_law_standing", "_law_moments", "_law_is_bad", "_law_j", "_law_moment"]
def T_law (ds : List D) (d : D) : Prop := ∃ script : List Int, ds = [.sq (script.map .int)] ∧ d = .bl true
def barN (ns : List Int) (i : Nat) : List (List Str) := (List.range i).foldl (fun acc k => addBar acc (lotNM (holdsM (gOf ns)) (gOf ns (186 + k)))) (barredL (gOf ns))
def rawN (ns : List Int) (i : Nat) : Book := { rawM (gOf ns) with barred := barN ns i }
theorem rawN_2 (ns : List Int) : rawN ns 2 = lawB (gOf ns) := rfl
theorem barN_ok (ns : List Int) : ∀ i, (∀ k ∈ barN ns i, LotOf k (holdsM (gOf ns))) ∧ (barN ns i).length ≤ 3 + i
  | 0 => ⟨(barred_ok (gOf ns)).1.1, (barred_ok (gOf ns)).2⟩
  | i + 1 => by
    obtain ⟨h1, h2⟩ := barN_ok ns i
    obtain ⟨hn, hd, _, h3⟩ := holds_ok (gOf ns)
    have e : barN ns (i + 1) = addBar (barN ns i) (lotNM (holdsM (gOf ns)) (gOf ns (186 + i))) := by
      unfold barN
      rw [List.range_succ, List.foldl_append]
      rfl
    rw [e]
    have := addBar_len (barN ns i) (lotNM (holdsM (gOf ns)) (gOf ns (186 + i)))
    refine ⟨fun k hk => ?_, by omega⟩
    rcases addBar_sub k hk with z | rfl
    · exact h1 k z
    · exact lotNM_lot hd hn (by omega) _
theorem barN_succ (ns : List Int) (i : Nat) : barN ns (i + 1) = addBar (barN ns i) (lotNM (holdsM (gOf ns)) (gOf ns (186 + i))) := by
  unfold barN
  rw [List.range_succ, List.foldl_append]
  rfl
theorem gOf_set {ns : List Int} (hl : ns.length = 200) (h0 : ∀ x ∈ ns, 0 ≤ x) (v : Int) (hv : 0 ≤ v) : (ns.set 1 v).length = 200 ∧ ∀ x ∈ ns.set 1 v, 0 ≤ x := by
  refine ⟨by rw [List.length_set]; exact hl, fun x hx => ?_⟩
  rcases List.mem_or_eq_of_mem_set hx with z | z
  · exact h0 x z
  · rw [z]
    exact hv
theorem gOf_pos {ns : List Int} (h0 : ∀ x ∈ ns, 0 ≤ x) (j : Nat) : 0 ≤ gOf ns j := by
  unfold gOf
  rw [List.getD_eq_getElem?_getD]
  cases e : ns[j]? with
  | none => exact Int.le_refl _
  | some x => exact h0 x (List.mem_of_getElem? e)
set_option maxHeartbeats 16000000 in
theorem l_law {f : Addr} {fd : FuncData} (F : C8.Fun K "law" "law" (top 69) f fd) (B : Bt mg)
    (cN : C8.Cal P w K mg base 2 "_law_numbers" (spO ⟨P, w, K⟩ T_nums) []) (cB : C8.Cal P w K mg base 4 "_law_book" (spTp ⟨P, w, K⟩ T_lbook) []) (cLot : C8.Cal P w K mg base 1 "_law_lot" (spP ⟨P, w, K⟩ T_lot) [])
    (cM : C8.Cal P w K mg base 8 "_law_made" (spP ⟨P, w, K⟩ (T_made CB)) []) (cV : C8.Cal P w K mg base 8 "_law_told" (spP ⟨P, w, K⟩ (T_verdict CB)) []) (cI : C8.Cal P w K mg base 2 "_law_inputs" (spP ⟨P, w, K⟩ T_inputsL) [])
    (cL : C8.Cal P w K mg base 5 "_law_last_moments" (spP ⟨P, w, K⟩ T_lastL) []) (cS : C8.Cal P w K mg base 1 "_law_is_barred" (spP ⟨P, w, K⟩ T_isbL) []) (cH : C8.Cal P w K mg base 7 "is_barred_history" (spP ⟨P, w, K⟩ (T_ibh CB)) []) (cA : C8.Cal P w K mg base 1 "_law_is_ahead" (spP ⟨P, w, K⟩ T_aheadL) []) : FnOk P w K mg base C8.CX0 9 f fd ["_law_script"] (spP ⟨P, w, K⟩ T_law) := by
  have S : FnScope lawN ["_law_script"] (C8.fnScope (top 69)) := C8.fnScope_by (by decide +kernel)
  refine fnP T_law F S (fun ds d ⟨_, h, _⟩ => by rw [h]; rfl) (by decide) fun cdv A outer s H E hr ds d h => ?_
  obtain ⟨script, rfl, rfl⟩ := h
  obtain ⟨nl0, nr0⟩ := numsM_ok (script.take 63) 200
  refine sd_cons (ss_asgO 1 (eo_call cN hr (by decide) (ea_cons (ee_v 0 (.sq (script.map .int))) (ea_cons ee_int ea_nil)) ⟨script, 200, by decide, rfl, rfl⟩) (fun q1 => ?_) S.nd)
  generalize numsM (script.take 63) 200 = ns0 at nl0 nr0 ⊢
  have fin : ∀ (ns : List Int), ns.length = 200 → (∀ x ∈ ns, 0 ≤ x) → SD (cxOf C8.CX0 P w K mg base lawN "law" (C8.fnScope (top 69)) f cdv A outer s H E).nox [.im (.sq (script.map .int)), .im (eInts ns), .no, .no, .no, .no, .no, .no, .no, .no, .no, .no, .no, .no, .no] ((C8.fnBody (top 69)).drop 2) { nx := fun _ => D.bl true = .non, rt := fun t _ => t = .im (.bl true) } := by
    intro ns nl n0
    refine sd_cons (ss_asgTp 2 cB hr (by decide) (ea_cons (ee_v 1 (eInts ns)) (ea_cons ee_int (ea_cons (ee_tup (ea_cons ee_int (ea_cons ee_int (ea_cons ee_int (ea_cons ee_int (ea_cons ee_int (ea_cons ee_int (ea_cons ee_int ea_nil)))))))) ea_nil))) ⟨ns, nl, n0, rfl, rfl⟩ (fun q2 fs hfs => ?_) S.nd)
    obtain ⟨q3, rfl⟩ := hfs
    obtain ⟨hn, hd, h1, h3⟩ := holds_ok (gOf ns)
    -- two more barred lots
    refine sd_cons (ss_for (fun i : Nat => .int i) (fun m => [(3, .int m)]) (ei_rng (n := 2) B.range ee_int (by decide)) (fun i ss' => ∃ x3 x4, ss' = [.im (.sq (script.map .int)), .im (eInts ns), .tp q2 (bookFs q3 (rawN ns i)), x3, x4, .no, .no, .no, .no, .no, .no, .no, .no, .no, .no]) ⟨_, _, rfl⟩ ?_ ?_ ?_)
    · rintro i m ss' hm ⟨x3, x4, rfl⟩
      exact gd_name 3 S.nd
    · rintro i m ss' hm ⟨x3, x4, rfl⟩
      have hm2 : i < 2 ∧ m = i := by
        obtain ⟨h1, h2⟩ := List.getElem?_eq_some_iff.mp hm
        rw [List.length_range] at h1
        rw [List.getElem_range] at h2
        exact ⟨h1, h2.symm⟩
      obtain ⟨hi, rfl⟩ := hm2
      obtain ⟨bo1, bo2⟩ := barN_ok ns m
      have hlo := lotNM_lot hd hn (by omega) (gOf ns (186 + m))
      refine sd_cons (ss_asg 4 (ee_call cLot hr (by decide) (ea_cons (ee_ixTp 2 0 (q := q2) (fs := bookFs q3 (rawN ns m)) (d := eStrs (holdsM (gOf ns))) rfl rfl ee_int) (ea_cons (ee_ixL (ee_v 1 (eInts ns)) (ee_add ee_int (ee_v 3 (.int m))) (atG (j := 186 + m) (by omega) (by omega))) ea_nil)) ⟨holdsM (gOf ns), gOf ns (186 + m), hn, by omega, rfl, rfl⟩) ?_ S.nd)
      have hbo : ∀ k ∈ barN ns m, ∀ z ∈ k, PyData.strOk z = true := fun k hk z hz => ((bo1 k hk).nm z hz).ok
      have e : rawN ns (m + 1) = { rawM (gOf ns) with barred := addBar (barN ns m) (lotNM (holdsM (gOf ns)) (gOf ns (186 + m))) } := by
        unfold rawN
        rw [barN_succ]
      rw [e]
      have e0 : rawN ns m = { rawM (gOf ns) with barred := barN ns m } := rfl
      rw [e0]
      generalize barN ns m = acc at bo1 bo2 hbo
      have hg : lotNM (holdsM (gOf ns)) (gOf ns (186 + m)) = lotNM (holdsM (gOf ns)) (gOf ns (186 + m)) := rfl
      generalize lotNM (holdsM (gOf ns)) (gOf ns (186 + m)) = lt at hlo ⊢
      by_cases h : 1 < lt.length ∧ lt ∉ acc
      · rw [show addBar acc lt = acc ++ [lt] from if_pos h]
        refine sd_cons (ss_if (x := true) (et_w (EW.cast (ew_and (x := true) (y := true) (ET.cast (et_c2 cmp_gt (ee_lenT B.len (ee_v 4 (eLot lt))) ee_int) (by rw [List.length_map]; exact decide_eq_true (by omega))) fun _ => ew_and1 (ET.cast (et_ninTp 2 2 (q := q2) (l := q3) (ds := acc.map eLot) (n := 1) (m := 1) (k := decide (lt ∈ acc)) (Rm.u65 hr) rfl rfl (ee_v 4 (eLot lt)) ee_int (lot_ok fun z hz => (hlo.nm z hz).ok) (lots_ok hbo) (by decide) (by decide) (by rw [decide_eq_true_eq, mem_lots])) (by rw [decide_eq_false h.2]; rfl))) rfl)) (fun _ => ?_) fun h => nomatch h)
        refine sd_cons (ss_appTp 2 2 (q := q2) (l := q3) (ds := acc.map eLot) rfl rfl ee_int (ee_v 4 (eLot lt)) (by rw [List.length_map]; omega) (sd_nil (sd_nil ⟨.im (.int m), .im (eLot lt), ?_⟩)))
        unfold bookFs
        simp only [List.map_append]
        rfl
      · rw [show addBar acc lt = acc from if_neg h]
        by_cases h2 : 1 < lt.length
        · have h2' : lt ∈ acc := by
            by_cases z : lt ∈ acc
            · exact z
            · exact absurd ⟨h2, z⟩ h
          exact sd_cons (ss_if (x := false) (et_w (EW.cast (ew_and (x := true) (y := false) (ET.cast (et_c2 cmp_gt (ee_lenT B.len (ee_v 4 (eLot lt))) ee_int) (by rw [List.length_map]; exact decide_eq_true (by omega))) fun _ => ew_and1 (ET.cast (et_ninTp 2 2 (q := q2) (l := q3) (ds := acc.map eLot) (n := 1) (m := 1) (k := decide (lt ∈ acc)) (Rm.u65 hr) rfl rfl (ee_v 4 (eLot lt)) ee_int (lot_ok fun z hz => (hlo.nm z hz).ok) (lots_ok hbo) (by decide) (by decide) (by rw [decide_eq_true_eq, mem_lots])) (by rw [decide_eq_true h2']; rfl))) rfl)) (fun h => nomatch h) fun _ => sd_nil (sd_nil ⟨.im (.int m), .im (eLot lt), rfl⟩))
        · exact sd_cons (ss_if (x := false) (et_w (EW.cast (ew_and (x := false) (y := true) (ET.cast (et_c2 cmp_gt (ee_lenT B.len (ee_v 4 (eLot lt))) ee_int) (by rw [List.length_map]; exact decide_eq_false (by omega))) fun h => nomatch h) rfl)) (fun h => nomatch h) fun _ => sd_nil (sd_nil ⟨.im (.int m), .im (eLot lt), rfl⟩))
    rintro ss' ⟨x3, x4, rfl⟩
    rw [List.length_range]
    refine sd_frzTp 2 (q := q2) (fs := bookFs q3 (rawN ns 2)) rfl ?_
    show SD _ [.im (.sq (script.map .int)), .im (eInts ns), .im (partsL (rawN ns 2)), x3, x4, .no, .no, .no, .no, .no, .no, .no, .no, .no, .no] _ _
    rw [rawN_2]
    obtain ⟨hbr, hsm, hal⟩ := lawB_ok (gOf ns)
    generalize lawB (gOf ns) = bk at hbr hsm hal ⊢
    have hb := hbr.toBOk
    have hbn := norm_ok hb
    have hfew := few_of hbn hsm.norm
    have haln : (normB bk).alms.length ≤ 2 := hal
    have hin : ∀ i ∈ inputsL bk, InpOk (normB bk) i := by
      rw [← inputsM_norm]
      exact inputs_ok hbn haln
    have hpos := inputsL_pos bk
    refine sd_cons (ss_asg 5 (ee_call cM hr (by decide) (ea_cons (ee_v 2 (partsL bk)) ea_nil) ⟨bk, hbr, rfl, rfl⟩) ?_ S.nd)
    refine sd_cons (ss_asg 6 (ee_call cV hr (by decide) (ea_cons (ee_v 5 (dBook CB (normB bk))) ea_nil) ⟨normB bk, hbn, haln, hfew, rfl, rfl⟩) ?_ S.nd)
    have hV := vM_right hfew
    have hT : ∀ t, vM (normB bk) = .inr t → ∀ s ∈ t, Reach (normB bk) s := fun t h => vM_tbl h
    rw [inputsM_norm] at hV
    generalize vM (normB bk) = vv at hV hT ⊢
    refine sd_cons (ss_if (x := false) (ET.cast (et_c2 (cmp_isN (d := eV vv)) (ee_v 6 (eV vv)) ee_non) (by cases vv <;> rfl)) (fun h => nomatch h) fun _ => sd_nil ?_)
    refine sd_cons (ss_asg 7 (ee_call cI hr (by decide) (ea_cons (ee_v 2 (partsL bk)) ea_nil) ⟨bk, hb, hal, rfl, rfl⟩) ?_ S.nd)
    refine sd_cons (ss_for (fun i : Nat => .int i) (fun m => [(3, .int m)]) (ei_rng (n := 12) B.range ee_int (by decide)) (fun i ss' => ∃ x3 x8 x9 x10 x11 x12 x13 x14, ss' = [.im (.sq (script.map .int)), .im (eInts ns), .im (partsL bk), x3, x4, .im (dBook CB (normB bk)), .im (eV vv), .im (.lst ((inputsL bk).map eInp)), x8, x9, x10, x11, x12, x13, x14]) ⟨_, _, _, _, _, _, _, _, rfl⟩ ?_ ?_ ?_)
    · rintro i m ss' hm ⟨x3, x8, x9, x10, x11, x12, x13, x14, rfl⟩
      exact gd_name 3 S.nd
    · rintro i m ss' hm ⟨x3, x8, x9, x10, x11, x12, x13, x14, rfl⟩
      have hm2 : i < 12 ∧ m = i := by
        obtain ⟨h1, h2⟩ := List.getElem?_eq_some_iff.mp hm
        rw [List.length_range] at h1
        rw [List.getElem_range] at h2
        exact ⟨h1, h2.symm⟩
      obtain ⟨hi, rfl⟩ := hm2
      refine sd_cons (ss_asg 8 (d := .int ((64 + 10 * m : Nat) : Int)) (EE.cast (ee_add ee_int (ee_mul (.inl ⟨by decide, by decide⟩) ee_int (ee_v 3 (.int m)))) (congrArg D.int (by omega))) ?_ S.nd)
      have hat : 64 + 10 * m < 180 := by omega
      generalize 64 + 10 * m = at_ at hat ⊢
      have h10 := mod_rng (gOf ns at_) 10 (by decide)
      refine sd_cons (ss_setLc 9 (own := [("_law_j", 13)]) (fun j : Nat => .int j) (fun j => eInp (histAt (gOf ns) (inputsL bk) at_ j)) (fun j => [(13, .int j)]) S.nd (blkOk_by (N := lawN) (sc := C8.fnScope (top 69)) (by decide +kernel)) (ei_rng (n := (gOf ns at_ % 10).toNat) B.range (EE.cast (ee_mod (by decide) (ee_intI B.int (ee_ixL (ee_v 1 (eInts ns)) (ee_v 8 (.int at_)) (atG (j := at_) (by omega) rfl))) ee_int) (show D.int (gOf ns at_ % 10) = _ by congr 1; omega)) (by omega)) (by rw [List.length_range]; omega) (fun d hd s H C cl fp => gd_name 13 S.nd) (by simp) (fun j hj s H C cl fp => ?_) (fun q9 => ?_))
      · have hj : j < (gOf ns at_ % 10).toNat := List.mem_range.mp hj
        have hm0 := mod_rng (gOf ns (at_ + 1 + j)) ((inputsL bk).length : Int) (by omega)
        refine ee_ixL (i := gOf ns (at_ + 1 + j) % ((inputsL bk).length : Int)) (ee_v 7 (.lst ((inputsL bk).map eInp))) (ee_mod (j := ((inputsL bk).length : Int)) (by omega) (ee_intI B.int (ee_ixL (ee_v 1 (eInts ns)) (ee_add (ee_add (ee_v 8 (.int at_)) ee_int) (ee_v 13 (.int j))) (atG (j := at_ + 1 + j) (by omega) (by omega)))) (EE.cast (ee_lenL B.len (ee_v 7 (.lst ((inputsL bk).map eInp)))) (by rw [List.length_map]))) ?_
        rw [show gOf ns (at_ + 1 + j) % ((inputsL bk).length : Int) = (((gOf ns (at_ + 1 + j) % ((inputsL bk).length : Int)).toNat : Nat) : Int) from (Int.toNat_of_nonneg hm0.1).symm]
        exact atI_nat (by rw [List.getElem?_map, (histAt_get (gOf ns) hpos at_ j).1]; rfl)
      have eh : ((List.range (gOf ns at_ % 10).toNat).map fun j => eInp (histAt (gOf ns) (inputsL bk) at_ j)) = (histM (gOf ns) (inputsL bk) at_).map eInp := by
        unfold histM
        rw [List.map_map]
        rfl
      refine sd_know 9 (p := q9) (ds := (histM (gOf ns) (inputsL bk) at_).map eInp) (by rw [← eh]; rfl) ?_
      have hh := histM_mem (gOf ns) hpos at_
      have hl9 := histM_len (gOf ns) (inputsL bk) at_
      generalize histM (gOf ns) (inputsL bk) at_ = hs at hh hl9 ⊢
      have hio : ∀ i ∈ hs, InpOk (normB bk) i := fun i hi => hin i (hh i hi)
      have hord : ∀ i ∈ hs, OrdOk bk i.ord := fun i hi => by
        have := (hio i hi).ord
        cases e : i.ord with
        | none => trivial
        | some o =>
          rw [e] at this
          cases o with
          | stop => trivial
          | run n => exact this
          | go n =>
            have this : n ∈ (cmdsM bk.cmds).map Cmd.nm := this
            rw [cmdsM_nm] at this
            exact (sortS_perm _).mem_iff.mp this
      have hml := momLast_len hb hs
      refine sd_cons (ss_tup (ee_call cL hr (by decide) (ea_cons (ee_v 2 (partsL bk)) (ea_cons (ee_v 9 (.lst (hs.map eInp))) ea_nil)) ⟨bk, hs, hb, hord, rfl, rfl⟩) (gd_tup (gds_cons (gd_name 10 S.nd) (gds_cons (gd_name 11 S.nd) gds_nil))) ?_)
      refine sd_cons (ss_asg 12 (d := .bl (hasBarredM bk (lastMomM bk hs))) (EE.cast (ee_any B.any (EO.ee (EO.cast (eo_lc0 (own := [("_law_moment", 14)]) eLot (fun k => .bl (isBarredM bk k)) (fun k => [(14, eLot k)]) S.nd (blkOk_by (N := lawN) (sc := C8.fnScope (top 69)) (by decide +kernel)) (ei_lst (ee_v 11 (.lst ((lastMomM bk hs).map eLot)))) (by omega) (fun d hd s H C cl fp => gd_name 14 S.nd) (by simp) (fun d hd s H C cl fp => ee_call cS hr (by decide) (ea_cons (ee_v 2 (partsL bk)) (ea_cons (ee_v 14 (eLot d)) ea_nil)) ⟨bk, d, hb, rfl, rfl⟩)) (map_bl _ _)))) (by rw [any_id]; rfl)) ?_ S.nd)
      have ebad : badM (normB bk) hs = hasBarredM bk (lastMomM bk hs) := by
        unfold badM
        rw [hasBarredM_norm, lastMomM_norm hb]
      refine sd_cons (ss_if (x := false) (ET.cast (et_c2 cmp_neS (ee_reprB B.repr (ee_call cH hr (by decide) (ea_cons (ee_v 5 (dBook CB (normB bk))) (ea_cons (ee_v 9 (.lst (hs.map eInp))) ea_nil)) ⟨normB bk, hs, hbn, hio, by omega, rfl, rfl⟩)) (ee_reprB B.repr (ee_v 12 (.bl (hasBarredM bk (lastMomM bk hs)))))) (by rw [hasBarredM_norm, lastMomM_norm hb, decide_eq_true rfl]; rfl)) (fun h => nomatch h) fun _ => sd_nil ?_)
      rw [← ebad]
      cases vv with
      | inr t =>
        obtain ⟨g1, g2⟩ := hV.1 t rfl hs hh
        rw [g1, ← endM_norm hb, ← firstM_norm]
        have hts : ∀ s ∈ t, SOk (normB bk) s := fun s hs => reach_ok hbn (hT t rfl s hs)
        have hsk := endM_ok hbn hs (firstM_ok hbn)
        generalize endM (normB bk) (firstM (normB bk)) hs = st at g2 hsk ⊢
        refine sd_cons (ss_if (x := false) (et_w (EW.cast (ew_and (x := true) (y := false) (ET.cast (et_c2 cmp_eqS (ee_ixT (i := 0) (d := .str "clean") (ee_v 6 (eV (.inr t))) ee_int rfl) ee_str) (by decide)) fun _ => ew_and1 (et_w (EW.cast (ew_or (x := false) (y := false) (et_val (ee_v 12 (.bl false))) fun _ => ew_or1 (ET.cast (et_c2 (cmp_ninD (n := 2) (m := 2) (k := true) (Rm.u65 hr) (stg_ok hbn hsk) (stgs_ok hbn hts) (by decide) (by decide) (by simp only [true_iff]; exact List.mem_map_of_mem g2)) (ee_v 10 (eStg st)) (ee_ixT (i := 1) (d := .lst (t.map eStg)) (ee_v 6 (eV (.inr t))) ee_int rfl)) rfl)) rfl))) rfl)) (fun h => nomatch h) fun _ => sd_nil ?_)
        exact sd_cons (ss_if (x := false) (et_w (EW.cast (ew_and (x := false) (y := true) (ET.cast (et_c2 cmp_eqS (ee_ixT (i := 0) (d := .str "clean") (ee_v 6 (eV (.inr t))) ee_int rfl) ee_str) (by decide)) fun h => nomatch h) rfl)) (fun h => nomatch h) fun _ => sd_nil (sd_nil ⟨_, _, _, _, _, _, _, _, rfl⟩))
      | inl h0 =>
        obtain ⟨g1, g2, g3, g4⟩ := hV.2 h0 rfl
        refine sd_cons (ss_if (x := false) (et_w (EW.cast (ew_and (x := false) (y := true) (ET.cast (et_c2 cmp_eqS (ee_ixT (i := 0) (d := .str "barred") (ee_v 6 (eV (.inl h0))) ee_int rfl) ee_str) (by decide)) fun h => nomatch h) rfl)) (fun h => nomatch h) fun _ => sd_nil ?_)
        have hlast := g4 hs hh
        generalize badM (normB bk) hs = bd at hlast ⊢
        refine sd_cons (ss_if (x := false) (et_w (EW.cast (ew_and (x := true) (y := false) (ET.cast (et_c2 cmp_eqS (ee_ixT (i := 0) (d := .str "barred") (ee_v 6 (eV (.inl h0))) ee_int rfl) ee_str) (by decide)) fun _ => EW.cast (ew_and (x := bd) (y := isAheadM (inputsL bk) hs h0) (et_val (ee_v 12 (.bl bd))) fun _ => ew_and1 (et_val (ee_call cA hr (by decide) (ea_cons (ee_v 7 (.lst ((inputsL bk).map eInp))) (ea_cons (ee_v 9 (.lst (hs.map eInp))) (ea_cons (ee_ixT (i := 1) (d := .lst (h0.map eInp)) (ee_v 6 (eV (.inl h0))) ee_int rfl) ea_nil))) ⟨normB bk, inputsL bk, hs, h0, hbn, hin, hh, g1, by omega, by omega, rfl, rfl⟩))) ?_) rfl)) (fun h => nomatch h) fun _ => sd_nil (sd_nil ⟨_, _, _, _, _, _, _, _, rfl⟩))
        cases bd with
        | false => rfl
        | true =>
          rw [hlast rfl]
          rfl
    · rintro ss' ⟨x3, x8, x9, x10, x11, x12, x13, x14, rfl⟩
      cases vv with
      | inr t => exact sd_cons (ss_ret (EE.cast (ee_or (x := true) (y := true) (EE.cast (ee_c2 cmp_eqS (ee_ixT (i := 0) (d := .str "clean") (ee_v 6 (eV (.inr t))) ee_int rfl) ee_str) (congrArg D.bl (by decide))) fun h => nomatch h) rfl) rfl)
      | inl h0 =>
        obtain ⟨g1, g2, g3, g4⟩ := hV.2 h0 rfl
        exact sd_cons (ss_ret (EE.cast (ee_or (x := false) (y := true) (EE.cast (ee_c2 cmp_eqS (ee_ixT (i := 0) (d := .str "barred") (ee_v 6 (eV (.inl h0))) ee_int rfl) ee_str) (congrArg D.bl (by decide))) fun _ => ee_one' (EE.cast (ee_c2 cmp_isB (ee_call cH hr (by decide) (ea_cons (ee_v 5 (dBook CB (normB bk))) (ea_cons (ee_ixT (i := 1) (d := .lst (h0.map eInp)) (ee_v 6 (eV (.inl h0))) ee_int rfl) ea_nil)) ⟨normB bk, h0, hbn, fun i hi => hin i (g1 i hi), by omega, rfl, rfl⟩) ee_bl) (by rw [show hasBarredM (normB bk) (lastMomM (normB bk) h0) = true from g3]; rfl))) rfl) rfl)
  have n0 : ∀ x ∈ ns0, 0 ≤ x := fun x hx => (nr0 x hx).1
  have b1 : gOf ns0 1 < 1009 ∧ 0 ≤ gOf ns0 1 := by
    unfold gOf
    rw [List.getD_eq_getElem?_getD, List.getElem?_eq_getElem (by omega)]
    have := nr0 _ (List.getElem_mem (l := ns0) (n := 1) (by omega))
    exact ⟨this.2, this.1⟩
  have m2 := mod_rng (gOf ns0 185) 2 (by decide)
  by_cases hc : 0 < gOf ns0 184 % 4
  · refine sd_cons (ss_if (x := true) (ET.cast (et_c2 cmp_gt (ee_mod (by decide) (ee_intI B.int (ee_ixO 1 (q := q1) (k := 184) (d := .int (gOf ns0 184)) rfl ee_int (atG (j := 184) (by omega) rfl))) ee_int) ee_int) (decide_eq_true hc)) (fun _ => ?_) fun h => nomatch h)
    refine sd_cons (ss_setIx 1 (q := q1) (k := 1) (j := 1) (d := .int (gOf ns0 1 / 3 * 3 + 1 + gOf ns0 185 % 2)) rfl (ee_add (ee_add (ee_mul (.inr ⟨by decide, by decide⟩) (ee_fdiv ⟨by decide, by decide⟩ (ee_intI B.int (ee_ixO 1 (q := q1) (k := 1) (d := .int (gOf ns0 1)) rfl ee_int (atG (j := 1) (by omega) rfl))) ee_int) ee_int) ee_int) (ee_mod (by decide) (ee_intI B.int (ee_ixO 1 (q := q1) (k := 185) (d := .int (gOf ns0 185)) rfl ee_int (atG (j := 185) (by omega) rfl))) ee_int)) ee_int ?_ (sd_nil ?_))
    · rw [List.length_map, nl0]
      rfl
    · obtain ⟨e1, e2⟩ := gOf_set nl0 n0 (gOf ns0 1 / 3 * 3 + 1 + gOf ns0 185 % 2) (by omega)
      refine sd_know 1 (p := q1) (ds := (ns0.set 1 (gOf ns0 1 / 3 * 3 + 1 + gOf ns0 185 % 2)).map .int) ?_ ?_
      · rw [List.map_set]
        rfl
      · exact fin _ e1 e2
  · refine sd_cons (ss_if (x := false) (ET.cast (et_c2 cmp_gt (ee_mod (by decide) (ee_intI B.int (ee_ixO 1 (q := q1) (k := 184) (d := .int (gOf ns0 184)) rfl ee_int (atG (j := 184) (by omega) rfl))) ee_int) ee_int) (decide_eq_false hc)) (fun h => nomatch h) fun _ => sd_nil ?_)
    exact sd_know 1 (p := q1) (ds := ns0.map .int) rfl (fin ns0 nl0 n0)
end
end Fw
namespace Fw
open PySem PySem.Spec PyProof.Rows L2
theorem Fx.own_ok {K : PySem.W.Frag} {C : Str} {ns : List Str} (c : (Fx.own C ns).ok K = true) : Own K (He.ga K C) ns := by
  obtain ⟨c1, c2⟩ := He.ba c
  exact ⟨He.cls_ok c1, fun x hx => He.noat_ok (List.all_eq_true.mp c2 x hx)⟩
theorem Fx.ty_ok {K : PySem.W.Frag} {h : Heap} {mg : Str → Option Value} (X : K.In h) (G : h.Ns mainGlobals mg) {x : Str} {n : String} (c : (Fx.ty x n).ok K = true) : mg x = some (.type n) := by
  have c : (match PySem.W.nsIn K mainGlobals x with
    | some (some (.type m)) => m == n
    | _ => false) = true := c
  split at c
  · rename_i m e
    rw [eq_of_beq c] at e
    exact PySem.W.mg_of X G e
  · cases c
theorem Fx.prop_ok {K : PySem.W.Frag} {C m : Str} (c : (Fx.prop C m).ok K = true) : PropOf K (He.ga K C) m (He.ma K (He.ga K C) m) (pgAd K C m) := by
  obtain ⟨c1, c⟩ := He.ba c
  obtain ⟨c2, c⟩ := He.ba c
  obtain ⟨c3, c4⟩ := He.ba c
  refine ⟨He.eqO_ok c1, He.eqO_ok c2, of_decide_eq_true c3, ?_⟩
  unfold pgAd
  split at c4
  · rename_i g rest e
    rw [e]
    exact ⟨rest, rfl⟩
  · cases c4
theorem Dd.here {K : PySem.W.Frag} {d : Dd} (e : seenFn K (d.ad K) = d.told) (c : d.cod K = true) : ∃ fd, C8.Fun K d.nm d.qual d.st (d.ad K) fd ∧ fd.defaults = .none := by
  unfold seenFn at e
  unfold Dd.cod at c
  cases lk : K.lookup (d.ad K) with
  | none =>
    rw [lk] at c
    cases c
  | some ob =>
    rw [lk] at c e
    obtain ⟨oc, od, dt, osl⟩ := ob
    cases dt with
    | func q =>
      obtain ⟨n1, n2, n3, n4, n5, n6, n7, n8, n9, n10, n11, n12, n13, n14, n15⟩ := q
      have e := Option.some.inj e
      simp only [Prod.mk.injEq] at e
      obtain ⟨h1, h2, h3, h4, h5, h6, h7, h8, h9⟩ := e
      subst h1 h2 h3 h4 h5 h6 h7 h8 h9
      exact ⟨_, ⟨oc, od, _, n9, n10, n11, n12, n13, n14, osl, rfl, lk, c⟩, rfl⟩
    | _ => cases c
def hookF (n : Nat) (fs : List Fx) (ds : List Dd) : PySem.W.Hook where
  α := AlF
  obs := fun z => lookG n fs ds z.heap.get?
  val := fun _ => wantF ds
  says := fun _ hp => ∃ Kf : PySem.W.Frag, Kf.In hp ∧ lookF fs ds Kf = wantF ds
  of := fun _ hp e => ⟨_, He.frG_in, e⟩
  keeps := fun _ h1 h2 ⟨Kf, inK, told⟩ kp => ⟨Kf, inK.keeps kp, told⟩
theorem lookG_eq {n : Nat} {fs : List Fx} {ds : List Dd} {g : Addr → Option Obj} {z : Shared} (hg : ∀ a, g a = z.heap.get? a) : lookG n fs ds g = (hookF n fs ds).obs z := by
  have eg : g = z.heap.get? := funext hg
  rw [eg]
  rfl
section
variable {fs : List Fx} {ds : List Dd} {K : PySem.W.Frag}
theorem look_fx (c : lookF fs ds K = wantF ds) (i : Nat) {f : Fx} (hi : fs[i]? = some f := by rfl) : f.ok K = true := by
  have c1 : (fs.all (Fx.ok K) && ds.all (Dd.cod K)) = true := congrArg Prod.fst c
  rw [Bool.and_eq_true, List.all_eq_true] at c1
  exact c1.1 f (List.mem_of_getElem? hi)
theorem look_dd (c : lookF fs ds K = wantF ds) (i : Nat) {d : Dd} (hi : ds[i]? = some d := by rfl) : ∃ fd, C8.Fun K d.nm d.qual d.st (d.ad K) fd ∧ fd.defaults = .none := by
  have c1 : (fs.all (Fx.ok K) && ds.all (Dd.cod K)) = true := congrArg Prod.fst c
  have c2 : (ds.map fun d => seenFn K (d.ad K)) = ds.map Dd.told := congrArg Prod.snd c
  rw [Bool.and_eq_true, List.all_eq_true, List.all_eq_true] at c1
  refine Dd.here ?_ (c1.2 d (List.mem_of_getElem? hi))
  have := congrArg (fun l => l[i]?) c2
  simp only [List.getElem?_map, hi, Option.map_some, Option.some.injEq] at this
  exact this
end
/-- a global def -/
theorem def_of {K : PySem.W.Frag} {h : Heap} {mg : Str → Option Value} (X : K.In h) (G : h.Ns mainGlobals mg) {x : Str} {st : Stmt} (hf : ∃ fd, C8.Fun K x x st (He.ga K x) fd ∧ fd.defaults = .none) (g : (Fx.fa (.glo x)).ok K = true) (k : (Fx.fa (.keep x)).ok K = true) : ∃ fd, C8.Def K mg x st (He.ga K x) fd ∧ fd.defaults = .none := by
  obtain ⟨fd, F, df⟩ := hf
  exact ⟨fd, ⟨F, He.glo_ok X G g, He.keep_ok k⟩, df⟩
end Fw
namespace Fw
open PySem PySem.Spec PyProof.Rows L2
theorem bn0 (kV doc pm : Value) (an : Option Addr) (cdv ct : Value) (us : List Value) (hl : us.length = 8) : bindArgs (PySem.W.fnOf "__init__" "Book.__init__" (C8.fnArgs (mth 22 0)) (C8.fnBody (mth 22 0)) (C8.fnScope (mth 22 0)) .none kV doc pm an cdv ct) ⟨us, []⟩ = pure ((["self", "holds", "modes", "barred", "commands", "alarms", "rows", "quiet"] : List Str).zip us) := by
  match us, hl with
  | [_, _, _, _, _, _, _, _], _ => kernel_rfl!
theorem bn1 (kV doc pm : Value) (an : Option Addr) (cdv ct : Value) (us : List Value) (hl : us.length = 1) : bindArgs (PySem.W.fnOf "holds" "Book.holds" (C8.fnArgs (mth 22 1)) (C8.fnBody (mth 22 1)) (C8.fnScope (mth 22 1)) .none kV doc pm an cdv ct) ⟨us, []⟩ = pure ((["self"] : List Str).zip us) := by
  match us, hl with
  | [_], _ => kernel_rfl!
theorem bn2 (kV doc pm : Value) (an : Option Addr) (cdv ct : Value) (us : List Value) (hl : us.length = 1) : bindArgs (PySem.W.fnOf "modes" "Book.modes" (C8.fnArgs (mth 22 2)) (C8.fnBody (mth 22 2)) (C8.fnScope (mth 22 2)) .none kV doc pm an cdv ct) ⟨us, []⟩ = pure ((["self"] : List Str).zip us) := by
  match us, hl with
  | [_], _ => kernel_rfl!
theorem bn3 (kV doc pm : Value) (an : Option Addr) (cdv ct : Value) (us : List Value) (hl : us.length = 1) : bindArgs (PySem.W.fnOf "barred" "Book.barred" (C8.fnArgs (mth 22 3)) (C8.fnBody (mth 22 3)) (C8.fnScope (mth 22 3)) .none kV doc pm an cdv ct) ⟨us, []⟩ = pure ((["self"] : List Str).zip us) := by
  match us, hl with
  | [_], _ => kernel_rfl!
theorem bn4 (kV doc pm : Value) (an : Option Addr) (cdv ct : Value) (us : List Value) (hl : us.length = 1) : bindArgs (PySem.W.fnOf "commands" "Book.commands" (C8.fnArgs (mth 22 4)) (C8.fnBody (mth 22 4)) (C8.fnScope (mth 22 4)) .none kV doc pm an cdv ct) ⟨us, []⟩ = pure ((["self"] : List Str).zip us) := by
  match us, hl with
  | [_], _ => kernel_rfl!
theorem bn5 (kV doc pm : Value) (an : Option Addr) (cdv ct : Value) (us : List Value) (hl : us.length = 1) : bindArgs (PySem.W.fnOf "alarms" "Book.alarms" (C8.fnArgs (mth 22 5)) (C8.fnBody (mth 22 5)) (C8.fnScope (mth 22 5)) .none kV doc pm an cdv ct) ⟨us, []⟩ = pure ((["self"] : List Str).zip us) := by
  match us, hl with
  | [_], _ => kernel_rfl!
theorem bn6 (kV doc pm : Value) (an : Option Addr) (cdv ct : Value) (us : List Value) (hl : us.length = 1) : bindArgs (PySem.W.fnOf "rows" "Book.rows" (C8.fnArgs (mth 22 6)) (C8.fnBody (mth 22 6)) (C8.fnScope (mth 22 6)) .none kV doc pm an cdv ct) ⟨us, []⟩ = pure ((["self"] : List Str).zip us) := by
  match us, hl with
  | [_], _ => kernel_rfl!
theorem bn7 (kV doc pm : Value) (an : Option Addr) (cdv ct : Value) (us : List Value) (hl : us.length = 1) : bindArgs (PySem.W.fnOf "quiet" "Book.quiet" (C8.fnArgs (mth 22 7)) (C8.fnBody (mth 22 7)) (C8.fnScope (mth 22 7)) .none kV doc pm an cdv ct) ⟨us, []⟩ = pure ((["self"] : List Str).zip us) := by
  match us, hl with
  | [_], _ => kernel_rfl!
theorem bn8 (kV doc pm : Value) (an : Option Addr) (cdv ct : Value) (us : List Value) (hl : us.length = 1) : bindArgs (PySem.W.fnOf "safe" "Book.safe" (C8.fnArgs (mth 22 8)) (C8.fnBody (mth 22 8)) (C8.fnScope (mth 22 8)) .none kV doc pm an cdv ct) ⟨us, []⟩ = pure ((["self"] : List Str).zip us) := by
  match us, hl with
  | [_], _ => kernel_rfl!
theorem bn9 (kV doc pm : Value) (an : Option Addr) (cdv ct : Value) (us : List Value) (hl : us.length = 2) : bindArgs (PySem.W.fnOf "__init__" "Gears.__init__" (C8.fnArgs (mth 28 0)) (C8.fnBody (mth 28 0)) (C8.fnScope (mth 28 0)) .none kV doc pm an cdv ct) ⟨us, []⟩ = pure ((["self", "book"] : List Str).zip us) := by
  match us, hl with
  | [_, _], _ => kernel_rfl!
theorem bn10 (kV doc pm : Value) (an : Option Addr) (cdv ct : Value) (us : List Value) (hl : us.length = 3) : bindArgs (PySem.W.fnOf "__init__" "Turn.__init__" (C8.fnArgs (mth 30 0)) (C8.fnBody (mth 30 0)) (C8.fnScope (mth 30 0)) .none kV doc pm an cdv ct) ⟨us, []⟩ = pure ((["self", "gears", "standing"] : List Str).zip us) := by
  match us, hl with
  | [_, _, _], _ => kernel_rfl!
theorem bn11 (kV doc pm : Value) (an : Option Addr) (cdv ct : Value) (us : List Value) (hl : us.length = 4) : bindArgs (PySem.W.fnOf "effect" "Turn.effect" (C8.fnArgs (mth 30 1)) (C8.fnBody (mth 30 1)) (C8.fnScope (mth 30 1)) .none kV doc pm an cdv ct) ⟨us, []⟩ = pure ((["self", "on", "off", "to"] : List Str).zip us) := by
  match us, hl with
  | [_, _, _, _], _ => kernel_rfl!
theorem bn12 (kV doc pm : Value) (an : Option Addr) (cdv ct : Value) (us : List Value) (hl : us.length = 1) : bindArgs (PySem.W.fnOf "halt" "Turn.halt" (C8.fnArgs (mth 30 2)) (C8.fnBody (mth 30 2)) (C8.fnScope (mth 30 2)) .none kV doc pm an cdv ct) ⟨us, []⟩ = pure ((["self"] : List Str).zip us) := by
  match us, hl with
  | [_], _ => kernel_rfl!
theorem bn13 (kV doc pm : Value) (an : Option Addr) (cdv ct : Value) (us : List Value) (hl : us.length = 3) : bindArgs (PySem.W.fnOf "begin" "Turn.begin" (C8.fnArgs (mth 30 3)) (C8.fnBody (mth 30 3)) (C8.fnScope (mth 30 3)) .none kV doc pm an cdv ct) ⟨us, []⟩ = pure ((["self", "row", "place"] : List Str).zip us) := by
  match us, hl with
  | [_, _, _], _ => kernel_rfl!
theorem bn14 (kV doc pm : Value) (an : Option Addr) (cdv ct : Value) (us : List Value) (hl : us.length = 2) : bindArgs (PySem.W.fnOf "command" "Turn.command" (C8.fnArgs (mth 30 4)) (C8.fnBody (mth 30 4)) (C8.fnScope (mth 30 4)) .none kV doc pm an cdv ct) ⟨us, []⟩ = pure ((["self", "name"] : List Str).zip us) := by
  match us, hl with
  | [_, _], _ => kernel_rfl!
theorem bn15 (kV doc pm : Value) (an : Option Addr) (cdv ct : Value) (us : List Value) (hl : us.length = 2) : bindArgs (PySem.W.fnOf "answer" "Turn.answer" (C8.fnArgs (mth 30 5)) (C8.fnBody (mth 30 5)) (C8.fnScope (mth 30 5)) .none kV doc pm an cdv ct) ⟨us, []⟩ = pure ((["self", "alarms"] : List Str).zip us) := by
  match us, hl with
  | [_, _], _ => kernel_rfl!
theorem bn16 (kV doc pm : Value) (an : Option Addr) (cdv ct : Value) (us : List Value) (hl : us.length = 2) : bindArgs (PySem.W.fnOf "obey" "Turn.obey" (C8.fnArgs (mth 30 6)) (C8.fnBody (mth 30 6)) (C8.fnScope (mth 30 6)) .none kV doc pm an cdv ct) ⟨us, []⟩ = pure ((["self", "order"] : List Str).zip us) := by
  match us, hl with
  | [_, _], _ => kernel_rfl!
theorem bn17 (kV doc pm : Value) (an : Option Addr) (cdv ct : Value) (us : List Value) (hl : us.length = 1) : bindArgs (PySem.W.fnOf "wait" "Turn.wait" (C8.fnArgs (mth 30 7)) (C8.fnBody (mth 30 7)) (C8.fnScope (mth 30 7)) .none kV doc pm an cdv ct) ⟨us, []⟩ = pure ((["self"] : List Str).zip us) := by
  match us, hl with
  | [_], _ => kernel_rfl!
theorem bn18 (kV doc pm : Value) (an : Option Addr) (cdv ct : Value) (us : List Value) (hl : us.length = 1) : bindArgs (PySem.W.fnOf "go_on" "Turn.go_on" (C8.fnArgs (mth 30 8)) (C8.fnBody (mth 30 8)) (C8.fnScope (mth 30 8)) .none kV doc pm an cdv ct) ⟨us, []⟩ = pure ((["self"] : List Str).zip us) := by
  match us, hl with
  | [_], _ => kernel_rfl!
theorem bn19 (kV doc pm : Value) (an : Option Addr) (cdv ct : Value) (us : List Value) (hl : us.length = 1) : bindArgs (PySem.W.fnOf "step" "Turn.step" (C8.fnArgs (mth 30 9)) (C8.fnBody (mth 30 9)) (C8.fnScope (mth 30 9)) .none kV doc pm an cdv ct) ⟨us, []⟩ = pure ((["self"] : List Str).zip us) := by
  match us, hl with
  | [_], _ => kernel_rfl!
theorem bn20 (kV doc pm : Value) (an : Option Addr) (cdv ct : Value) (us : List Value) (hl : us.length = 5) : bindArgs (PySem.W.fnOf "__init__" "Step.__init__" (C8.fnArgs (mth 27 0)) (C8.fnBody (mth 27 0)) (C8.fnScope (mth 27 0)) .none kV doc pm an cdv ct) ⟨us, []⟩ = pure ((["self", "standing", "done", "refused", "moments"] : List Str).zip us) := by
  match us, hl with
  | [_, _, _, _, _], _ => kernel_rfl!
theorem bn21 (kV doc pm : Value) (an : Option Addr) (cdv ct : Value) (us : List Value) (hl : us.length = 1) : bindArgs (PySem.W.fnOf "is_name" "is_name" (C8.fnArgs (top 13)) (C8.fnBody (top 13)) (C8.fnScope (top 13)) .none kV doc pm an cdv ct) ⟨us, []⟩ = pure ((["text"] : List Str).zip us) := by
  match us, hl with
  | [_], _ => kernel_rfl!
theorem bn22 (kV doc pm : Value) (an : Option Addr) (cdv ct : Value) (us : List Value) (hl : us.length = 1) : bindArgs (PySem.W.fnOf "is_lot" "is_lot" (C8.fnArgs (top 14)) (C8.fnBody (top 14)) (C8.fnScope (top 14)) .none kV doc pm an cdv ct) ⟨us, []⟩ = pure ((["names"] : List Str).zip us) := by
  match us, hl with
  | [_], _ => kernel_rfl!
theorem bn23 (kV doc pm : Value) (an : Option Addr) (cdv ct : Value) (us : List Value) (hl : us.length = 2) : bindArgs (PySem.W.fnOf "is_lot_of" "is_lot_of" (C8.fnArgs (top 15)) (C8.fnBody (top 15)) (C8.fnScope (top 15)) .none kV doc pm an cdv ct) ⟨us, []⟩ = pure ((["names", "known"] : List Str).zip us) := by
  match us, hl with
  | [_, _], _ => kernel_rfl!
theorem bn24 (kV doc pm : Value) (an : Option Addr) (cdv ct : Value) (us : List Value) (hl : us.length = 3) : bindArgs (PySem.W.fnOf "are_turned" "are_turned" (C8.fnArgs (top 16)) (C8.fnBody (top 16)) (C8.fnScope (top 16)) .none kV doc pm an cdv ct) ⟨us, []⟩ = pure ((["on", "off", "holds"] : List Str).zip us) := by
  match us, hl with
  | [_, _, _], _ => kernel_rfl!
theorem bn25 (kV doc pm : Value) (an : Option Addr) (cdv ct : Value) (us : List Value) (hl : us.length = 1) : bindArgs (PySem.W.fnOf "require" "require" (C8.fnArgs (top 17)) (C8.fnBody (top 17)) (C8.fnScope (top 17)) .none kV doc pm an cdv ct) ⟨us, []⟩ = pure ((["holds"] : List Str).zip us) := by
  match us, hl with
  | [_], _ => kernel_rfl!
theorem bn26 (kV doc pm : Value) (an : Option Addr) (cdv ct : Value) (us : List Value) (hl : us.length = 3) : bindArgs (PySem.W.fnOf "require_names" "require_names" (C8.fnArgs (top 18)) (C8.fnBody (top 18)) (C8.fnScope (top 18)) .none kV doc pm an cdv ct) ⟨us, []⟩ = pure ((["names", "least", "most"] : List Str).zip us) := by
  match us, hl with
  | [_, _, _], _ => kernel_rfl!
theorem bn27 (kV doc pm : Value) (an : Option Addr) (cdv ct : Value) (us : List Value) (hl : us.length = 5) : bindArgs (PySem.W.fnOf "is_effect" "is_effect" (C8.fnArgs (top 19)) (C8.fnBody (top 19)) (C8.fnScope (top 19)) .none kV doc pm an cdv ct) ⟨us, []⟩ = pure ((["on", "off", "to", "holds", "modes"] : List Str).zip us) := by
  match us, hl with
  | [_, _, _, _, _], _ => kernel_rfl!
theorem bn28 (kV doc pm : Value) (an : Option Addr) (cdv ct : Value) (us : List Value) (hl : us.length = 2) : bindArgs (PySem.W.fnOf "is_step" "is_step" (C8.fnArgs (top 20)) (C8.fnBody (top 20)) (C8.fnScope (top 20)) .none kV doc pm an cdv ct) ⟨us, []⟩ = pure ((["step", "commands"] : List Str).zip us) := by
  match us, hl with
  | [_, _], _ => kernel_rfl!
theorem bn29 (kV doc pm : Value) (an : Option Addr) (cdv ct : Value) (us : List Value) (hl : us.length = 1) : bindArgs (PySem.W.fnOf "names_of" "names_of" (C8.fnArgs (top 21)) (C8.fnBody (top 21)) (C8.fnScope (top 21)) .none kV doc pm an cdv ct) ⟨us, []⟩ = pure ((["parts"] : List Str).zip us) := by
  match us, hl with
  | [_], _ => kernel_rfl!
theorem bn30 (kV doc pm : Value) (an : Option Addr) (cdv ct : Value) (us : List Value) (hl : us.length = 2) : bindArgs (PySem.W.fnOf "is_order" "is_order" (C8.fnArgs (top 23)) (C8.fnBody (top 23)) (C8.fnScope (top 23)) .none kV doc pm an cdv ct) ⟨us, []⟩ = pure ((["book", "order"] : List Str).zip us) := by
  match us, hl with
  | [_, _], _ => kernel_rfl!
theorem bn31 (kV doc pm : Value) (an : Option Addr) (cdv ct : Value) (us : List Value) (hl : us.length = 2) : bindArgs (PySem.W.fnOf "is_input" "is_input" (C8.fnArgs (top 24)) (C8.fnBody (top 24)) (C8.fnScope (top 24)) .none kV doc pm an cdv ct) ⟨us, []⟩ = pure ((["book", "told"] : List Str).zip us) := by
  match us, hl with
  | [_, _], _ => kernel_rfl!
theorem bn32 (kV doc pm : Value) (an : Option Addr) (cdv ct : Value) (us : List Value) (hl : us.length = 2) : bindArgs (PySem.W.fnOf "check_inputs" "check_inputs" (C8.fnArgs (top 25)) (C8.fnBody (top 25)) (C8.fnScope (top 25)) .none kV doc pm an cdv ct) ⟨us, []⟩ = pure ((["book", "inputs"] : List Str).zip us) := by
  match us, hl with
  | [_, _], _ => kernel_rfl!
theorem bn33 (kV doc pm : Value) (an : Option Addr) (cdv ct : Value) (us : List Value) (hl : us.length = 3) : bindArgs (PySem.W.fnOf "turned" "turned" (C8.fnArgs (top 29)) (C8.fnBody (top 29)) (C8.fnScope (top 29)) .none kV doc pm an cdv ct) ⟨us, []⟩ = pure ((["holds", "on", "off"] : List Str).zip us) := by
  match us, hl with
  | [_, _, _], _ => kernel_rfl!
theorem bn34 (kV doc pm : Value) (an : Option Addr) (cdv ct : Value) (us : List Value) (hl : us.length = 4) : bindArgs (PySem.W.fnOf "tick_by" "tick_by" (C8.fnArgs (top 31)) (C8.fnBody (top 31)) (C8.fnScope (top 31)) .none kV doc pm an cdv ct) ⟨us, []⟩ = pure ((["gears", "standing", "alarms", "order"] : List Str).zip us) := by
  match us, hl with
  | [_, _, _, _], _ => kernel_rfl!
theorem bn35 (kV doc pm : Value) (an : Option Addr) (cdv ct : Value) (us : List Value) (hl : us.length = 1) : bindArgs (PySem.W.fnOf "first_standing" "first_standing" (C8.fnArgs (top 32)) (C8.fnBody (top 32)) (C8.fnScope (top 32)) .none kV doc pm an cdv ct) ⟨us, []⟩ = pure ((["book"] : List Str).zip us) := by
  match us, hl with
  | [_], _ => kernel_rfl!
theorem bn36 (kV doc pm : Value) (an : Option Addr) (cdv ct : Value) (us : List Value) (hl : us.length = 2) : bindArgs (PySem.W.fnOf "run_of" "run_of" (C8.fnArgs (top 33)) (C8.fnBody (top 33)) (C8.fnScope (top 33)) .none kV doc pm an cdv ct) ⟨us, []⟩ = pure ((["book", "inputs"] : List Str).zip us) := by
  match us, hl with
  | [_, _], _ => kernel_rfl!
theorem bn37 (kV doc pm : Value) (an : Option Addr) (cdv ct : Value) (us : List Value) (hl : us.length = 1) : bindArgs (PySem.W.fnOf "orders_of" "orders_of" (C8.fnArgs (top 34)) (C8.fnBody (top 34)) (C8.fnScope (top 34)) .none kV doc pm an cdv ct) ⟨us, []⟩ = pure ((["book"] : List Str).zip us) := by
  match us, hl with
  | [_], _ => kernel_rfl!
theorem bn38 (kV doc pm : Value) (an : Option Addr) (cdv ct : Value) (us : List Value) (hl : us.length = 1) : bindArgs (PySem.W.fnOf "lots_of" "lots_of" (C8.fnArgs (top 35)) (C8.fnBody (top 35)) (C8.fnScope (top 35)) .none kV doc pm an cdv ct) ⟨us, []⟩ = pure ((["names"] : List Str).zip us) := by
  match us, hl with
  | [_], _ => kernel_rfl!
theorem bn39 (kV doc pm : Value) (an : Option Addr) (cdv ct : Value) (us : List Value) (hl : us.length = 1) : bindArgs (PySem.W.fnOf "inputs_of" "inputs_of" (C8.fnArgs (top 36)) (C8.fnBody (top 36)) (C8.fnScope (top 36)) .none kV doc pm an cdv ct) ⟨us, []⟩ = pure ((["book"] : List Str).zip us) := by
  match us, hl with
  | [_], _ => kernel_rfl!
theorem bn40 (kV doc pm : Value) (an : Option Addr) (cdv ct : Value) (us : List Value) (hl : us.length = 2) : bindArgs (PySem.W.fnOf "is_barred" "is_barred" (C8.fnArgs (top 37)) (C8.fnBody (top 37)) (C8.fnScope (top 37)) .none kV doc pm an cdv ct) ⟨us, []⟩ = pure ((["book", "lot"] : List Str).zip us) := by
  match us, hl with
  | [_, _], _ => kernel_rfl!
theorem bn41 (kV doc pm : Value) (an : Option Addr) (cdv ct : Value) (us : List Value) (hl : us.length = 2) : bindArgs (PySem.W.fnOf "has_barred" "has_barred" (C8.fnArgs (top 38)) (C8.fnBody (top 38)) (C8.fnScope (top 38)) .none kV doc pm an cdv ct) ⟨us, []⟩ = pure ((["book", "moments"] : List Str).zip us) := by
  match us, hl with
  | [_, _], _ => kernel_rfl!
theorem bn42 (kV doc pm : Value) (an : Option Addr) (cdv ct : Value) (us : List Value) (hl : us.length = 1) : bindArgs (PySem.W.fnOf "befores" "befores" (C8.fnArgs (top 41)) (C8.fnBody (top 41)) (C8.fnScope (top 41)) .none kV doc pm an cdv ct) ⟨us, []⟩ = pure ((["book"] : List Str).zip us) := by
  match us, hl with
  | [_], _ => kernel_rfl!
theorem bn43 (kV doc pm : Value) (an : Option Addr) (cdv ct : Value) (us : List Value) (hl : us.length = 2) : bindArgs (PySem.W.fnOf "way_to" "way_to" (C8.fnArgs (top 42)) (C8.fnBody (top 42)) (C8.fnScope (top 42)) .none kV doc pm an cdv ct) ⟨us, []⟩ = pure ((["before", "standing"] : List Str).zip us) := by
  match us, hl with
  | [_, _], _ => kernel_rfl!
theorem bn44 (kV doc pm : Value) (an : Option Addr) (cdv ct : Value) (us : List Value) (hl : us.length = 1) : bindArgs (PySem.W.fnOf "verdict" "verdict" (C8.fnArgs (top 43)) (C8.fnBody (top 43)) (C8.fnScope (top 43)) .none kV doc pm an cdv ct) ⟨us, []⟩ = pure ((["book"] : List Str).zip us) := by
  match us, hl with
  | [_], _ => kernel_rfl!
theorem bn45 (kV doc pm : Value) (an : Option Addr) (cdv ct : Value) (us : List Value) (hl : us.length = 2) : bindArgs (PySem.W.fnOf "is_barred_history" "is_barred_history" (C8.fnArgs (top 44)) (C8.fnBody (top 44)) (C8.fnScope (top 44)) .none kV doc pm an cdv ct) ⟨us, []⟩ = pure ((["book", "history"] : List Str).zip us) := by
  match us, hl with
  | [_, _], _ => kernel_rfl!
theorem bn46 (kV doc pm : Value) (an : Option Addr) (cdv ct : Value) (us : List Value) (hl : us.length = 2) : bindArgs (PySem.W.fnOf "_law_row" "_law_row" (C8.fnArgs (top 46)) (C8.fnBody (top 46)) (C8.fnScope (top 46)) .none kV doc pm an cdv ct) ⟨us, []⟩ = pure ((["_law_cell", "_law_many"] : List Str).zip us) := by
  match us, hl with
  | [_, _], _ => kernel_rfl!
theorem bn47 (kV doc pm : Value) (an : Option Addr) (cdv ct : Value) (us : List Value) (hl : us.length = 2) : bindArgs (PySem.W.fnOf "_law_numbers" "_law_numbers" (C8.fnArgs (top 47)) (C8.fnBody (top 47)) (C8.fnScope (top 47)) .none kV doc pm an cdv ct) ⟨us, []⟩ = pure ((["_law_script", "_law_many"] : List Str).zip us) := by
  match us, hl with
  | [_, _], _ => kernel_rfl!
theorem bn48 (kV doc pm : Value) (an : Option Addr) (cdv ct : Value) (us : List Value) (hl : us.length = 2) : bindArgs (PySem.W.fnOf "_law_names" "_law_names" (C8.fnArgs (top 48)) (C8.fnBody (top 48)) (C8.fnScope (top 48)) .none kV doc pm an cdv ct) ⟨us, []⟩ = pure ((["_law_number", "_law_many"] : List Str).zip us) := by
  match us, hl with
  | [_, _], _ => kernel_rfl!
theorem bn49 (kV doc pm : Value) (an : Option Addr) (cdv ct : Value) (us : List Value) (hl : us.length = 2) : bindArgs (PySem.W.fnOf "_law_lot" "_law_lot" (C8.fnArgs (top 49)) (C8.fnBody (top 49)) (C8.fnScope (top 49)) .none kV doc pm an cdv ct) ⟨us, []⟩ = pure ((["_law_names_here", "_law_number"] : List Str).zip us) := by
  match us, hl with
  | [_, _], _ => kernel_rfl!
theorem bn50 (kV doc pm : Value) (an : Option Addr) (cdv ct : Value) (us : List Value) (hl : us.length = 3) : bindArgs (PySem.W.fnOf "_law_turned" "_law_turned" (C8.fnArgs (top 50)) (C8.fnBody (top 50)) (C8.fnScope (top 50)) .none kV doc pm an cdv ct) ⟨us, []⟩ = pure ((["_law_holds", "_law_on", "_law_off"] : List Str).zip us) := by
  match us, hl with
  | [_, _, _], _ => kernel_rfl!
theorem bn51 (kV doc pm : Value) (an : Option Addr) (cdv ct : Value) (us : List Value) (hl : us.length = 2) : bindArgs (PySem.W.fnOf "_law_to" "_law_to" (C8.fnArgs (top 51)) (C8.fnBody (top 51)) (C8.fnScope (top 51)) .none kV doc pm an cdv ct) ⟨us, []⟩ = pure ((["_law_modes", "_law_number"] : List Str).zip us) := by
  match us, hl with
  | [_, _], _ => kernel_rfl!
theorem bn52 (kV doc pm : Value) (an : Option Addr) (cdv ct : Value) (us : List Value) (hl : us.length = 4) : bindArgs (PySem.W.fnOf "_law_effect" "_law_effect" (C8.fnArgs (top 52)) (C8.fnBody (top 52)) (C8.fnScope (top 52)) .none kV doc pm an cdv ct) ⟨us, []⟩ = pure ((["_law_holds", "_law_modes", "_law_number", "_law_other"] : List Str).zip us) := by
  match us, hl with
  | [_, _, _, _], _ => kernel_rfl!
theorem bn53 (kV doc pm : Value) (an : Option Addr) (cdv ct : Value) (us : List Value) (hl : us.length = 3) : bindArgs (PySem.W.fnOf "_law_book" "_law_book" (C8.fnArgs (top 53)) (C8.fnBody (top 53)) (C8.fnScope (top 53)) .none kV doc pm an cdv ct) ⟨us, []⟩ = pure ((["_law_numbers_here", "_law_at", "_law_sizes"] : List Str).zip us) := by
  match us, hl with
  | [_, _, _], _ => kernel_rfl!
theorem bn54 (kV doc pm : Value) (an : Option Addr) (cdv ct : Value) (us : List Value) (hl : us.length = 1) : bindArgs (PySem.W.fnOf "_law_made" "_law_made" (C8.fnArgs (top 54)) (C8.fnBody (top 54)) (C8.fnScope (top 54)) .none kV doc pm an cdv ct) ⟨us, []⟩ = pure ((["_law_parts"] : List Str).zip us) := by
  match us, hl with
  | [_], _ => kernel_rfl!
theorem bn55 (kV doc pm : Value) (an : Option Addr) (cdv ct : Value) (us : List Value) (hl : us.length = 3) : bindArgs (PySem.W.fnOf "_law_change" "_law_change" (C8.fnArgs (top 55)) (C8.fnBody (top 55)) (C8.fnScope (top 55)) .none kV doc pm an cdv ct) ⟨us, []⟩ = pure ((["_law_lot_here", "_law_on", "_law_off"] : List Str).zip us) := by
  match us, hl with
  | [_, _, _], _ => kernel_rfl!
theorem bn56 (kV doc pm : Value) (an : Option Addr) (cdv ct : Value) (us : List Value) (hl : us.length = 6) : bindArgs (PySem.W.fnOf "_law_effected" "_law_effected" (C8.fnArgs (top 56)) (C8.fnBody (top 56)) (C8.fnScope (top 56)) .none kV doc pm an cdv ct) ⟨us, []⟩ = pure ((["_law_parts", "_law_mode", "_law_lot_here", "_law_on", "_law_off", "_law_to_here"] : List Str).zip us) := by
  match us, hl with
  | [_, _, _, _, _, _], _ => kernel_rfl!
theorem bn57 (kV doc pm : Value) (an : Option Addr) (cdv ct : Value) (us : List Value) (hl : us.length = 1) : bindArgs (PySem.W.fnOf "_law_first" "_law_first" (C8.fnArgs (top 57)) (C8.fnBody (top 57)) (C8.fnScope (top 57)) .none kV doc pm an cdv ct) ⟨us, []⟩ = pure ((["_law_parts"] : List Str).zip us) := by
  match us, hl with
  | [_], _ => kernel_rfl!
theorem bn58 (kV doc pm : Value) (an : Option Addr) (cdv ct : Value) (us : List Value) (hl : us.length = 2) : bindArgs (PySem.W.fnOf "_law_steps_of" "_law_steps_of" (C8.fnArgs (top 58)) (C8.fnBody (top 58)) (C8.fnScope (top 58)) .none kV doc pm an cdv ct) ⟨us, []⟩ = pure ((["_law_parts", "_law_row_here"] : List Str).zip us) := by
  match us, hl with
  | [_, _], _ => kernel_rfl!
theorem bn59 (kV doc pm : Value) (an : Option Addr) (cdv ct : Value) (us : List Value) (hl : us.length = 3) : bindArgs (PySem.W.fnOf "_law_command" "_law_command" (C8.fnArgs (top 59)) (C8.fnBody (top 59)) (C8.fnScope (top 59)) .none kV doc pm an cdv ct) ⟨us, []⟩ = pure ((["_law_parts", "_law_mode", "_law_name"] : List Str).zip us) := by
  match us, hl with
  | [_, _, _], _ => kernel_rfl!
theorem bn60 (kV doc pm : Value) (an : Option Addr) (cdv ct : Value) (us : List Value) (hl : us.length = 5) : bindArgs (PySem.W.fnOf "_law_running" "_law_running" (C8.fnArgs (top 60)) (C8.fnBody (top 60)) (C8.fnScope (top 60)) .none kV doc pm an cdv ct) ⟨us, []⟩ = pure ((["_law_parts", "_law_mode", "_law_lot_here", "_law_run", "_law_told_here"] : List Str).zip us) := by
  match us, hl with
  | [_, _, _, _, _], _ => kernel_rfl!
theorem bn61 (kV doc pm : Value) (an : Option Addr) (cdv ct : Value) (us : List Value) (hl : us.length = 4) : bindArgs (PySem.W.fnOf "_law_tick" "_law_tick" (C8.fnArgs (top 61)) (C8.fnBody (top 61)) (C8.fnScope (top 61)) .none kV doc pm an cdv ct) ⟨us, []⟩ = pure ((["_law_parts", "_law_standing", "_law_alarms", "_law_order"] : List Str).zip us) := by
  match us, hl with
  | [_, _, _, _], _ => kernel_rfl!
theorem bn62 (kV doc pm : Value) (an : Option Addr) (cdv ct : Value) (us : List Value) (hl : us.length = 1) : bindArgs (PySem.W.fnOf "_law_subsets" "_law_subsets" (C8.fnArgs (top 62)) (C8.fnBody (top 62)) (C8.fnScope (top 62)) .none kV doc pm an cdv ct) ⟨us, []⟩ = pure ((["_law_names_here"] : List Str).zip us) := by
  match us, hl with
  | [_], _ => kernel_rfl!
theorem bn63 (kV doc pm : Value) (an : Option Addr) (cdv ct : Value) (us : List Value) (hl : us.length = 1) : bindArgs (PySem.W.fnOf "_law_orders" "_law_orders" (C8.fnArgs (top 63)) (C8.fnBody (top 63)) (C8.fnScope (top 63)) .none kV doc pm an cdv ct) ⟨us, []⟩ = pure ((["_law_parts"] : List Str).zip us) := by
  match us, hl with
  | [_], _ => kernel_rfl!
theorem bn64 (kV doc pm : Value) (an : Option Addr) (cdv ct : Value) (us : List Value) (hl : us.length = 1) : bindArgs (PySem.W.fnOf "_law_inputs" "_law_inputs" (C8.fnArgs (top 64)) (C8.fnBody (top 64)) (C8.fnScope (top 64)) .none kV doc pm an cdv ct) ⟨us, []⟩ = pure ((["_law_parts"] : List Str).zip us) := by
  match us, hl with
  | [_], _ => kernel_rfl!
theorem bn65 (kV doc pm : Value) (an : Option Addr) (cdv ct : Value) (us : List Value) (hl : us.length = 2) : bindArgs (PySem.W.fnOf "_law_is_barred" "_law_is_barred" (C8.fnArgs (top 65)) (C8.fnBody (top 65)) (C8.fnScope (top 65)) .none kV doc pm an cdv ct) ⟨us, []⟩ = pure ((["_law_parts", "_law_lot_here"] : List Str).zip us) := by
  match us, hl with
  | [_, _], _ => kernel_rfl!
theorem bn66 (kV doc pm : Value) (an : Option Addr) (cdv ct : Value) (us : List Value) (hl : us.length = 1) : bindArgs (PySem.W.fnOf "_law_told" "_law_told" (C8.fnArgs (top 66)) (C8.fnBody (top 66)) (C8.fnScope (top 66)) .none kV doc pm an cdv ct) ⟨us, []⟩ = pure ((["_law_book_here"] : List Str).zip us) := by
  match us, hl with
  | [_], _ => kernel_rfl!
theorem bn67 (kV doc pm : Value) (an : Option Addr) (cdv ct : Value) (us : List Value) (hl : us.length = 2) : bindArgs (PySem.W.fnOf "_law_last_moments" "_law_last_moments" (C8.fnArgs (top 67)) (C8.fnBody (top 67)) (C8.fnScope (top 67)) .none kV doc pm an cdv ct) ⟨us, []⟩ = pure ((["_law_parts", "_law_history"] : List Str).zip us) := by
  match us, hl with
  | [_, _], _ => kernel_rfl!
theorem bn68 (kV doc pm : Value) (an : Option Addr) (cdv ct : Value) (us : List Value) (hl : us.length = 3) : bindArgs (PySem.W.fnOf "_law_is_ahead" "_law_is_ahead" (C8.fnArgs (top 68)) (C8.fnBody (top 68)) (C8.fnScope (top 68)) .none kV doc pm an cdv ct) ⟨us, []⟩ = pure ((["_law_inputs_here", "_law_one", "_law_other"] : List Str).zip us) := by
  match us, hl with
  | [_, _, _], _ => kernel_rfl!
theorem bn69 (kV doc pm : Value) (an : Option Addr) (cdv ct : Value) (us : List Value) (hl : us.length = 1) : bindArgs (PySem.W.fnOf "law" "law" (C8.fnArgs (top 69)) (C8.fnBody (top 69)) (C8.fnScope (top 69)) .none kV doc pm an cdv ct) ⟨us, []⟩ = pure ((["_law_script"] : List Str).zip us) := by
  match us, hl with
  | [_], _ => kernel_rfl!
theorem look_fa {fs : List Fx} {ds : List Dd} {K : PySem.W.Frag} (c : lookF fs ds K = wantF ds) (i : Nat) {f : He.Fa} (hi : fs[i]? = some (.fa f)) : f.ok K = true := look_fx c i hi
theorem law_fn {P : Program} {w : World} {K : PySem.W.Frag} {h : Heap} {mg : Str → Option Value} {fa : Addr} (X : K.In h) (G : h.Ns mainGlobals mg) (c : lookF hdF hdD K = wantF hdD) (hfa : mg "law" = some (.ref fa)) : ∃ fd : FuncData, (∀ (s : Shared) (u : Value), BindsTo s fd ⟨[u], []⟩ [("_law_script", u)]) ∧ ∀ base : Heap, FnOk P w K mg base C8.CX0 9 fa fd ["_law_script"] (spP ⟨P, w, K⟩ T_law) := by
  have B : Bt mg := ⟨He.free_ok X G (look_fa (f := (.free "len")) c 0 (by kernel_rfl!)), He.free_ok X G (look_fa (f := (.free "all")) c 1 (by kernel_rfl!)), He.free_ok X G (look_fa (f := (.free "any")) c 2 (by kernel_rfl!)), He.free_ok X G (look_fa (f := (.free "range")) c 3 (by kernel_rfl!)), He.free_ok X G (look_fa (f := (.free "sorted")) c 4 (by kernel_rfl!)), He.free_ok X G (look_fa (f := (.free "set")) c 5 (by kernel_rfl!)), He.free_ok X G (look_fa (f := (.free "list")) c 6 (by kernel_rfl!)), He.free_ok X G (look_fa (f := (.free "tuple")) c 7 (by kernel_rfl!)), He.free_ok X G (look_fa (f := (.free "int")) c 8 (by kernel_rfl!)), He.free_ok X G (look_fa (f := (.free "abs")) c 9 (by kernel_rfl!)), He.free_ok X G (look_fa (f := (.free "max")) c 10 (by kernel_rfl!)), He.free_ok X G (look_fa (f := (.free "repr")) c 11 (by kernel_rfl!))⟩
  have Gg : Gs mg := ⟨He.str_ok X G (look_fa (f := (.str "LETTERS" lettersS)) c 12 (by kernel_rfl!)), He.str_ok X G (look_fa (f := (.str "MODE" "mode")) c 13 (by kernel_rfl!)), He.str_ok X G (look_fa (f := (.str "COMMAND" "command")) c 14 (by kernel_rfl!)), He.str_ok X G (look_fa (f := (.str "ALARM" "alarm")) c 15 (by kernel_rfl!)), He.str_ok X G (look_fa (f := (.str "ROW" "row")) c 16 (by kernel_rfl!))⟩
  have hM := He.int_ok X G (look_fa (f := (.int "MOST_STANDINGS" 2000)) c 17 (by kernel_rfl!))
  have hC := Fx.ty_ok X G (look_fx (f := .ty "combinations" "itertools.combinations") c 18 (by kernel_rfl!))
  have oBook := Fx.own_ok (look_fx (f := .own "Book" bookNs) c 20 (by kernel_rfl!))
  have gBook := He.glo_ok X G (look_fa (f := (.glo "Book")) c 19 (by kernel_rfl!))
  have MBook := He.mkr_ok (look_fa (f := (.mkr "Book")) c 21 (by kernel_rfl!))
  obtain ⟨_, FBook, nBook⟩ : ∃ fd, C8.Fun K "__init__" "Book.__init__" (mth 22 0) (He.ma K (He.ga K "Book") "__init__") fd ∧ fd.defaults = .none := look_dd c 0 (d := hd0) (by kernel_rfl!)
  have bBook := FBook.binds (ps := ["self", "holds", "modes", "barred", "commands", "alarms", "rows", "quiet"]) nBook bn0
  have oGears := Fx.own_ok (look_fx (f := .own "Gears" gearNs) c 23 (by kernel_rfl!))
  have gGears := He.glo_ok X G (look_fa (f := (.glo "Gears")) c 22 (by kernel_rfl!))
  have MGears := He.mkr_ok (look_fa (f := (.mkr "Gears")) c 24 (by kernel_rfl!))
  obtain ⟨_, FGears, nGears⟩ : ∃ fd, C8.Fun K "__init__" "Gears.__init__" (mth 28 0) (He.ma K (He.ga K "Gears") "__init__") fd ∧ fd.defaults = .none := look_dd c 9 (d := hd9) (by kernel_rfl!)
  have bGears := FGears.binds (ps := ["self", "book"]) nGears bn9
  have oTurn := Fx.own_ok (look_fx (f := .own "Turn" turnNs) c 26 (by kernel_rfl!))
  have gTurn := He.glo_ok X G (look_fa (f := (.glo "Turn")) c 25 (by kernel_rfl!))
  have MTurn := He.mkr_ok (look_fa (f := (.mkr "Turn")) c 27 (by kernel_rfl!))
  obtain ⟨_, FTurn, nTurn⟩ : ∃ fd, C8.Fun K "__init__" "Turn.__init__" (mth 30 0) (He.ma K (He.ga K "Turn") "__init__") fd ∧ fd.defaults = .none := look_dd c 10 (d := hd10) (by kernel_rfl!)
  have bTurn := FTurn.binds (ps := ["self", "gears", "standing"]) nTurn bn10
  have oStep := Fx.own_ok (look_fx (f := .own "Step" stepNs) c 29 (by kernel_rfl!))
  have gStep := He.glo_ok X G (look_fa (f := (.glo "Step")) c 28 (by kernel_rfl!))
  have MStep := He.mkr_ok (look_fa (f := (.mkr "Step")) c 30 (by kernel_rfl!))
  obtain ⟨_, FStep, nStep⟩ : ∃ fd, C8.Fun K "__init__" "Step.__init__" (mth 27 0) (He.ma K (He.ga K "Step") "__init__") fd ∧ fd.defaults = .none := look_dd c 20 (d := hd20) (by kernel_rfl!)
  have bStep := FStep.binds (ps := ["self", "standing", "done", "refused", "moments"]) nStep bn20
  have me_effect := He.meth_ok (look_fa (f := (.meth "Turn" "effect")) c 31 (by kernel_rfl!))
  obtain ⟨_, F_effect, n_effect⟩ : ∃ fd, C8.Fun K "effect" "Turn.effect" (mth 30 1) (He.ma K (He.ga K "Turn") "effect") fd ∧ fd.defaults = .none := look_dd c 11 (d := hd11) (by kernel_rfl!)
  have b_effect := F_effect.binds (ps := ["self", "on", "off", "to"]) n_effect bn11
  have me_halt := He.meth_ok (look_fa (f := (.meth "Turn" "halt")) c 32 (by kernel_rfl!))
  obtain ⟨_, F_halt, n_halt⟩ : ∃ fd, C8.Fun K "halt" "Turn.halt" (mth 30 2) (He.ma K (He.ga K "Turn") "halt") fd ∧ fd.defaults = .none := look_dd c 12 (d := hd12) (by kernel_rfl!)
  have b_halt := F_halt.binds (ps := ["self"]) n_halt bn12
  have me_begin := He.meth_ok (look_fa (f := (.meth "Turn" "begin")) c 33 (by kernel_rfl!))
  obtain ⟨_, F_begin, n_begin⟩ : ∃ fd, C8.Fun K "begin" "Turn.begin" (mth 30 3) (He.ma K (He.ga K "Turn") "begin") fd ∧ fd.defaults = .none := look_dd c 13 (d := hd13) (by kernel_rfl!)
  have b_begin := F_begin.binds (ps := ["self", "row", "place"]) n_begin bn13
  have me_command := He.meth_ok (look_fa (f := (.meth "Turn" "command")) c 34 (by kernel_rfl!))
  obtain ⟨_, F_command, n_command⟩ : ∃ fd, C8.Fun K "command" "Turn.command" (mth 30 4) (He.ma K (He.ga K "Turn") "command") fd ∧ fd.defaults = .none := look_dd c 14 (d := hd14) (by kernel_rfl!)
  have b_command := F_command.binds (ps := ["self", "name"]) n_command bn14
  have me_answer := He.meth_ok (look_fa (f := (.meth "Turn" "answer")) c 35 (by kernel_rfl!))
  obtain ⟨_, F_answer, n_answer⟩ : ∃ fd, C8.Fun K "answer" "Turn.answer" (mth 30 5) (He.ma K (He.ga K "Turn") "answer") fd ∧ fd.defaults = .none := look_dd c 15 (d := hd15) (by kernel_rfl!)
  have b_answer := F_answer.binds (ps := ["self", "alarms"]) n_answer bn15
  have me_obey := He.meth_ok (look_fa (f := (.meth "Turn" "obey")) c 36 (by kernel_rfl!))
  obtain ⟨_, F_obey, n_obey⟩ : ∃ fd, C8.Fun K "obey" "Turn.obey" (mth 30 6) (He.ma K (He.ga K "Turn") "obey") fd ∧ fd.defaults = .none := look_dd c 16 (d := hd16) (by kernel_rfl!)
  have b_obey := F_obey.binds (ps := ["self", "order"]) n_obey bn16
  have me_wait := He.meth_ok (look_fa (f := (.meth "Turn" "wait")) c 37 (by kernel_rfl!))
  obtain ⟨_, F_wait, n_wait⟩ : ∃ fd, C8.Fun K "wait" "Turn.wait" (mth 30 7) (He.ma K (He.ga K "Turn") "wait") fd ∧ fd.defaults = .none := look_dd c 17 (d := hd17) (by kernel_rfl!)
  have b_wait := F_wait.binds (ps := ["self"]) n_wait bn17
  have me_go_on := He.meth_ok (look_fa (f := (.meth "Turn" "go_on")) c 38 (by kernel_rfl!))
  obtain ⟨_, F_go_on, n_go_on⟩ : ∃ fd, C8.Fun K "go_on" "Turn.go_on" (mth 30 8) (He.ma K (He.ga K "Turn") "go_on") fd ∧ fd.defaults = .none := look_dd c 18 (d := hd18) (by kernel_rfl!)
  have b_go_on := F_go_on.binds (ps := ["self"]) n_go_on bn18
  have me_step := He.meth_ok (look_fa (f := (.meth "Turn" "step")) c 39 (by kernel_rfl!))
  obtain ⟨_, F_step, n_step⟩ : ∃ fd, C8.Fun K "step" "Turn.step" (mth 30 9) (He.ma K (He.ga K "Turn") "step") fd ∧ fd.defaults = .none := look_dd c 19 (d := hd19) (by kernel_rfl!)
  have b_step := F_step.binds (ps := ["self"]) n_step bn19
  have pr_holds := Fx.prop_ok (look_fx (f := .prop "Book" "holds") c 40 (by kernel_rfl!))
  obtain ⟨_, Fp_holds, np_holds⟩ : ∃ fd, C8.Fun K "holds" "Book.holds" (mth 22 1) (pgAd K "Book" "holds") fd ∧ fd.defaults = .none := look_dd c 1 (d := hd1) (by kernel_rfl!)
  have bp_holds := Fp_holds.binds (ps := ["self"]) np_holds bn1
  have pr_modes := Fx.prop_ok (look_fx (f := .prop "Book" "modes") c 41 (by kernel_rfl!))
  obtain ⟨_, Fp_modes, np_modes⟩ : ∃ fd, C8.Fun K "modes" "Book.modes" (mth 22 2) (pgAd K "Book" "modes") fd ∧ fd.defaults = .none := look_dd c 2 (d := hd2) (by kernel_rfl!)
  have bp_modes := Fp_modes.binds (ps := ["self"]) np_modes bn2
  have pr_barred := Fx.prop_ok (look_fx (f := .prop "Book" "barred") c 42 (by kernel_rfl!))
  obtain ⟨_, Fp_barred, np_barred⟩ : ∃ fd, C8.Fun K "barred" "Book.barred" (mth 22 3) (pgAd K "Book" "barred") fd ∧ fd.defaults = .none := look_dd c 3 (d := hd3) (by kernel_rfl!)
  have bp_barred := Fp_barred.binds (ps := ["self"]) np_barred bn3
  have pr_commands := Fx.prop_ok (look_fx (f := .prop "Book" "commands") c 43 (by kernel_rfl!))
  obtain ⟨_, Fp_commands, np_commands⟩ : ∃ fd, C8.Fun K "commands" "Book.commands" (mth 22 4) (pgAd K "Book" "commands") fd ∧ fd.defaults = .none := look_dd c 4 (d := hd4) (by kernel_rfl!)
  have bp_commands := Fp_commands.binds (ps := ["self"]) np_commands bn4
  have pr_alarms := Fx.prop_ok (look_fx (f := .prop "Book" "alarms") c 44 (by kernel_rfl!))
  obtain ⟨_, Fp_alarms, np_alarms⟩ : ∃ fd, C8.Fun K "alarms" "Book.alarms" (mth 22 5) (pgAd K "Book" "alarms") fd ∧ fd.defaults = .none := look_dd c 5 (d := hd5) (by kernel_rfl!)
  have bp_alarms := Fp_alarms.binds (ps := ["self"]) np_alarms bn5
  have pr_rows := Fx.prop_ok (look_fx (f := .prop "Book" "rows") c 45 (by kernel_rfl!))
  obtain ⟨_, Fp_rows, np_rows⟩ : ∃ fd, C8.Fun K "rows" "Book.rows" (mth 22 6) (pgAd K "Book" "rows") fd ∧ fd.defaults = .none := look_dd c 6 (d := hd6) (by kernel_rfl!)
  have bp_rows := Fp_rows.binds (ps := ["self"]) np_rows bn6
  have pr_quiet := Fx.prop_ok (look_fx (f := .prop "Book" "quiet") c 46 (by kernel_rfl!))
  obtain ⟨_, Fp_quiet, np_quiet⟩ : ∃ fd, C8.Fun K "quiet" "Book.quiet" (mth 22 7) (pgAd K "Book" "quiet") fd ∧ fd.defaults = .none := look_dd c 7 (d := hd7) (by kernel_rfl!)
  have bp_quiet := Fp_quiet.binds (ps := ["self"]) np_quiet bn7
  have pr_safe := Fx.prop_ok (look_fx (f := .prop "Book" "safe") c 47 (by kernel_rfl!))
  obtain ⟨_, Fp_safe, np_safe⟩ : ∃ fd, C8.Fun K "safe" "Book.safe" (mth 22 8) (pgAd K "Book" "safe") fd ∧ fd.defaults = .none := look_dd c 8 (d := hd8) (by kernel_rfl!)
  have bp_safe := Fp_safe.binds (ps := ["self"]) np_safe bn8
  obtain ⟨_, F13, n13⟩ := def_of (x := "is_name") (st := top 13) X G (look_dd c 21 (d := hd21) (by kernel_rfl!)) (look_fa (f := (.glo "is_name")) c 48 (by kernel_rfl!)) (look_fa (f := (.keep "is_name")) c 49 (by kernel_rfl!))
  have b13 := F13.fn.binds (ps := ["text"]) n13 bn21
  obtain ⟨_, F14, n14⟩ := def_of (x := "is_lot") (st := top 14) X G (look_dd c 22 (d := hd22) (by kernel_rfl!)) (look_fa (f := (.glo "is_lot")) c 50 (by kernel_rfl!)) (look_fa (f := (.keep "is_lot")) c 51 (by kernel_rfl!))
  have b14 := F14.fn.binds (ps := ["names"]) n14 bn22
  obtain ⟨_, F15, n15⟩ := def_of (x := "is_lot_of") (st := top 15) X G (look_dd c 23 (d := hd23) (by kernel_rfl!)) (look_fa (f := (.glo "is_lot_of")) c 52 (by kernel_rfl!)) (look_fa (f := (.keep "is_lot_of")) c 53 (by kernel_rfl!))
  have b15 := F15.fn.binds (ps := ["names", "known"]) n15 bn23
  obtain ⟨_, F16, n16⟩ := def_of (x := "are_turned") (st := top 16) X G (look_dd c 24 (d := hd24) (by kernel_rfl!)) (look_fa (f := (.glo "are_turned")) c 54 (by kernel_rfl!)) (look_fa (f := (.keep "are_turned")) c 55 (by kernel_rfl!))
  have b16 := F16.fn.binds (ps := ["on", "off", "holds"]) n16 bn24
  obtain ⟨_, F17, n17⟩ := def_of (x := "require") (st := top 17) X G (look_dd c 25 (d := hd25) (by kernel_rfl!)) (look_fa (f := (.glo "require")) c 56 (by kernel_rfl!)) (look_fa (f := (.keep "require")) c 57 (by kernel_rfl!))
  have b17 := F17.fn.binds (ps := ["holds"]) n17 bn25
  obtain ⟨_, F18, n18⟩ := def_of (x := "require_names") (st := top 18) X G (look_dd c 26 (d := hd26) (by kernel_rfl!)) (look_fa (f := (.glo "require_names")) c 58 (by kernel_rfl!)) (look_fa (f := (.keep "require_names")) c 59 (by kernel_rfl!))
  have b18 := F18.fn.binds (ps := ["names", "least", "most"]) n18 bn26
  obtain ⟨_, F19, n19⟩ := def_of (x := "is_effect") (st := top 19) X G (look_dd c 27 (d := hd27) (by kernel_rfl!)) (look_fa (f := (.glo "is_effect")) c 60 (by kernel_rfl!)) (look_fa (f := (.keep "is_effect")) c 61 (by kernel_rfl!))
  have b19 := F19.fn.binds (ps := ["on", "off", "to", "holds", "modes"]) n19 bn27
  obtain ⟨_, F20, n20⟩ := def_of (x := "is_step") (st := top 20) X G (look_dd c 28 (d := hd28) (by kernel_rfl!)) (look_fa (f := (.glo "is_step")) c 62 (by kernel_rfl!)) (look_fa (f := (.keep "is_step")) c 63 (by kernel_rfl!))
  have b20 := F20.fn.binds (ps := ["step", "commands"]) n20 bn28
  obtain ⟨_, F21, n21⟩ := def_of (x := "names_of") (st := top 21) X G (look_dd c 29 (d := hd29) (by kernel_rfl!)) (look_fa (f := (.glo "names_of")) c 64 (by kernel_rfl!)) (look_fa (f := (.keep "names_of")) c 65 (by kernel_rfl!))
  have b21 := F21.fn.binds (ps := ["parts"]) n21 bn29
  obtain ⟨_, F23, n23⟩ := def_of (x := "is_order") (st := top 23) X G (look_dd c 30 (d := hd30) (by kernel_rfl!)) (look_fa (f := (.glo "is_order")) c 66 (by kernel_rfl!)) (look_fa (f := (.keep "is_order")) c 67 (by kernel_rfl!))
  have b23 := F23.fn.binds (ps := ["book", "order"]) n23 bn30
  obtain ⟨_, F24, n24⟩ := def_of (x := "is_input") (st := top 24) X G (look_dd c 31 (d := hd31) (by kernel_rfl!)) (look_fa (f := (.glo "is_input")) c 68 (by kernel_rfl!)) (look_fa (f := (.keep "is_input")) c 69 (by kernel_rfl!))
  have b24 := F24.fn.binds (ps := ["book", "told"]) n24 bn31
  obtain ⟨_, F25, n25⟩ := def_of (x := "check_inputs") (st := top 25) X G (look_dd c 32 (d := hd32) (by kernel_rfl!)) (look_fa (f := (.glo "check_inputs")) c 70 (by kernel_rfl!)) (look_fa (f := (.keep "check_inputs")) c 71 (by kernel_rfl!))
  have b25 := F25.fn.binds (ps := ["book", "inputs"]) n25 bn32
  obtain ⟨_, F29, n29⟩ := def_of (x := "turned") (st := top 29) X G (look_dd c 33 (d := hd33) (by kernel_rfl!)) (look_fa (f := (.glo "turned")) c 72 (by kernel_rfl!)) (look_fa (f := (.keep "turned")) c 73 (by kernel_rfl!))
  have b29 := F29.fn.binds (ps := ["holds", "on", "off"]) n29 bn33
  obtain ⟨_, F31, n31⟩ := def_of (x := "tick_by") (st := top 31) X G (look_dd c 34 (d := hd34) (by kernel_rfl!)) (look_fa (f := (.glo "tick_by")) c 74 (by kernel_rfl!)) (look_fa (f := (.keep "tick_by")) c 75 (by kernel_rfl!))
  have b31 := F31.fn.binds (ps := ["gears", "standing", "alarms", "order"]) n31 bn34
  obtain ⟨_, F32, n32⟩ := def_of (x := "first_standing") (st := top 32) X G (look_dd c 35 (d := hd35) (by kernel_rfl!)) (look_fa (f := (.glo "first_standing")) c 76 (by kernel_rfl!)) (look_fa (f := (.keep "first_standing")) c 77 (by kernel_rfl!))
  have b32 := F32.fn.binds (ps := ["book"]) n32 bn35
  obtain ⟨_, F33, n33⟩ := def_of (x := "run_of") (st := top 33) X G (look_dd c 36 (d := hd36) (by kernel_rfl!)) (look_fa (f := (.glo "run_of")) c 78 (by kernel_rfl!)) (look_fa (f := (.keep "run_of")) c 79 (by kernel_rfl!))
  have b33 := F33.fn.binds (ps := ["book", "inputs"]) n33 bn36
  obtain ⟨_, F34, n34⟩ := def_of (x := "orders_of") (st := top 34) X G (look_dd c 37 (d := hd37) (by kernel_rfl!)) (look_fa (f := (.glo "orders_of")) c 80 (by kernel_rfl!)) (look_fa (f := (.keep "orders_of")) c 81 (by kernel_rfl!))
  have b34 := F34.fn.binds (ps := ["book"]) n34 bn37
  obtain ⟨_, F35, n35⟩ := def_of (x := "lots_of") (st := top 35) X G (look_dd c 38 (d := hd38) (by kernel_rfl!)) (look_fa (f := (.glo "lots_of")) c 82 (by kernel_rfl!)) (look_fa (f := (.keep "lots_of")) c 83 (by kernel_rfl!))
  have b35 := F35.fn.binds (ps := ["names"]) n35 bn38
  obtain ⟨_, F36, n36⟩ := def_of (x := "inputs_of") (st := top 36) X G (look_dd c 39 (d := hd39) (by kernel_rfl!)) (look_fa (f := (.glo "inputs_of")) c 84 (by kernel_rfl!)) (look_fa (f := (.keep "inputs_of")) c 85 (by kernel_rfl!))
  have b36 := F36.fn.binds (ps := ["book"]) n36 bn39
  obtain ⟨_, F37, n37⟩ := def_of (x := "is_barred") (st := top 37) X G (look_dd c 40 (d := hd40) (by kernel_rfl!)) (look_fa (f := (.glo "is_barred")) c 86 (by kernel_rfl!)) (look_fa (f := (.keep "is_barred")) c 87 (by kernel_rfl!))
  have b37 := F37.fn.binds (ps := ["book", "lot"]) n37 bn40
  obtain ⟨_, F38, n38⟩ := def_of (x := "has_barred") (st := top 38) X G (look_dd c 41 (d := hd41) (by kernel_rfl!)) (look_fa (f := (.glo "has_barred")) c 88 (by kernel_rfl!)) (look_fa (f := (.keep "has_barred")) c 89 (by kernel_rfl!))
  have b38 := F38.fn.binds (ps := ["book", "moments"]) n38 bn41
  obtain ⟨_, F41, n41⟩ := def_of (x := "befores") (st := top 41) X G (look_dd c 42 (d := hd42) (by kernel_rfl!)) (look_fa (f := (.glo "befores")) c 90 (by kernel_rfl!)) (look_fa (f := (.keep "befores")) c 91 (by kernel_rfl!))
  have b41 := F41.fn.binds (ps := ["book"]) n41 bn42
  obtain ⟨_, F42, n42⟩ := def_of (x := "way_to") (st := top 42) X G (look_dd c 43 (d := hd43) (by kernel_rfl!)) (look_fa (f := (.glo "way_to")) c 92 (by kernel_rfl!)) (look_fa (f := (.keep "way_to")) c 93 (by kernel_rfl!))
  have b42 := F42.fn.binds (ps := ["before", "standing"]) n42 bn43
  obtain ⟨_, F43, n43⟩ := def_of (x := "verdict") (st := top 43) X G (look_dd c 44 (d := hd44) (by kernel_rfl!)) (look_fa (f := (.glo "verdict")) c 94 (by kernel_rfl!)) (look_fa (f := (.keep "verdict")) c 95 (by kernel_rfl!))
  have b43 := F43.fn.binds (ps := ["book"]) n43 bn44
  obtain ⟨_, F44, n44⟩ := def_of (x := "is_barred_history") (st := top 44) X G (look_dd c 45 (d := hd45) (by kernel_rfl!)) (look_fa (f := (.glo "is_barred_history")) c 96 (by kernel_rfl!)) (look_fa (f := (.keep "is_barred_history")) c 97 (by kernel_rfl!))
  have b44 := F44.fn.binds (ps := ["book", "history"]) n44 bn45
  obtain ⟨_, F46, n46⟩ := def_of (x := "_law_row") (st := top 46) X G (look_dd c 46 (d := hd46) (by kernel_rfl!)) (look_fa (f := (.glo "_law_row")) c 98 (by kernel_rfl!)) (look_fa (f := (.keep "_law_row")) c 99 (by kernel_rfl!))
  have b46 := F46.fn.binds (ps := ["_law_cell", "_law_many"]) n46 bn46
  obtain ⟨_, F47, n47⟩ := def_of (x := "_law_numbers") (st := top 47) X G (look_dd c 47 (d := hd47) (by kernel_rfl!)) (look_fa (f := (.glo "_law_numbers")) c 100 (by kernel_rfl!)) (look_fa (f := (.keep "_law_numbers")) c 101 (by kernel_rfl!))
  have b47 := F47.fn.binds (ps := ["_law_script", "_law_many"]) n47 bn47
  obtain ⟨_, F48, n48⟩ := def_of (x := "_law_names") (st := top 48) X G (look_dd c 48 (d := hd48) (by kernel_rfl!)) (look_fa (f := (.glo "_law_names")) c 102 (by kernel_rfl!)) (look_fa (f := (.keep "_law_names")) c 103 (by kernel_rfl!))
  have b48 := F48.fn.binds (ps := ["_law_number", "_law_many"]) n48 bn48
  obtain ⟨_, F49, n49⟩ := def_of (x := "_law_lot") (st := top 49) X G (look_dd c 49 (d := hd49) (by kernel_rfl!)) (look_fa (f := (.glo "_law_lot")) c 104 (by kernel_rfl!)) (look_fa (f := (.keep "_law_lot")) c 105 (by kernel_rfl!))
  have b49 := F49.fn.binds (ps := ["_law_names_here", "_law_number"]) n49 bn49
  obtain ⟨_, F50, n50⟩ := def_of (x := "_law_turned") (st := top 50) X G (look_dd c 50 (d := hd50) (by kernel_rfl!)) (look_fa (f := (.glo "_law_turned")) c 106 (by kernel_rfl!)) (look_fa (f := (.keep "_law_turned")) c 107 (by kernel_rfl!))
  have b50 := F50.fn.binds (ps := ["_law_holds", "_law_on", "_law_off"]) n50 bn50
  obtain ⟨_, F51, n51⟩ := def_of (x := "_law_to") (st := top 51) X G (look_dd c 51 (d := hd51) (by kernel_rfl!)) (look_fa (f := (.glo "_law_to")) c 108 (by kernel_rfl!)) (look_fa (f := (.keep "_law_to")) c 109 (by kernel_rfl!))
  have b51 := F51.fn.binds (ps := ["_law_modes", "_law_number"]) n51 bn51
  obtain ⟨_, F52, n52⟩ := def_of (x := "_law_effect") (st := top 52) X G (look_dd c 52 (d := hd52) (by kernel_rfl!)) (look_fa (f := (.glo "_law_effect")) c 110 (by kernel_rfl!)) (look_fa (f := (.keep "_law_effect")) c 111 (by kernel_rfl!))
  have b52 := F52.fn.binds (ps := ["_law_holds", "_law_modes", "_law_number", "_law_other"]) n52 bn52
  obtain ⟨_, F53, n53⟩ := def_of (x := "_law_book") (st := top 53) X G (look_dd c 53 (d := hd53) (by kernel_rfl!)) (look_fa (f := (.glo "_law_book")) c 112 (by kernel_rfl!)) (look_fa (f := (.keep "_law_book")) c 113 (by kernel_rfl!))
  have b53 := F53.fn.binds (ps := ["_law_numbers_here", "_law_at", "_law_sizes"]) n53 bn53
  obtain ⟨_, F54, n54⟩ := def_of (x := "_law_made") (st := top 54) X G (look_dd c 54 (d := hd54) (by kernel_rfl!)) (look_fa (f := (.glo "_law_made")) c 114 (by kernel_rfl!)) (look_fa (f := (.keep "_law_made")) c 115 (by kernel_rfl!))
  have b54 := F54.fn.binds (ps := ["_law_parts"]) n54 bn54
  obtain ⟨_, F55, n55⟩ := def_of (x := "_law_change") (st := top 55) X G (look_dd c 55 (d := hd55) (by kernel_rfl!)) (look_fa (f := (.glo "_law_change")) c 116 (by kernel_rfl!)) (look_fa (f := (.keep "_law_change")) c 117 (by kernel_rfl!))
  have b55 := F55.fn.binds (ps := ["_law_lot_here", "_law_on", "_law_off"]) n55 bn55
  obtain ⟨_, F56, n56⟩ := def_of (x := "_law_effected") (st := top 56) X G (look_dd c 56 (d := hd56) (by kernel_rfl!)) (look_fa (f := (.glo "_law_effected")) c 118 (by kernel_rfl!)) (look_fa (f := (.keep "_law_effected")) c 119 (by kernel_rfl!))
  have b56 := F56.fn.binds (ps := ["_law_parts", "_law_mode", "_law_lot_here", "_law_on", "_law_off", "_law_to_here"]) n56 bn56
  obtain ⟨_, F57, n57⟩ := def_of (x := "_law_first") (st := top 57) X G (look_dd c 57 (d := hd57) (by kernel_rfl!)) (look_fa (f := (.glo "_law_first")) c 120 (by kernel_rfl!)) (look_fa (f := (.keep "_law_first")) c 121 (by kernel_rfl!))
  have b57 := F57.fn.binds (ps := ["_law_parts"]) n57 bn57
  obtain ⟨_, F58, n58⟩ := def_of (x := "_law_steps_of") (st := top 58) X G (look_dd c 58 (d := hd58) (by kernel_rfl!)) (look_fa (f := (.glo "_law_steps_of")) c 122 (by kernel_rfl!)) (look_fa (f := (.keep "_law_steps_of")) c 123 (by kernel_rfl!))
  have b58 := F58.fn.binds (ps := ["_law_parts", "_law_row_here"]) n58 bn58
  obtain ⟨_, F59, n59⟩ := def_of (x := "_law_command") (st := top 59) X G (look_dd c 59 (d := hd59) (by kernel_rfl!)) (look_fa (f := (.glo "_law_command")) c 124 (by kernel_rfl!)) (look_fa (f := (.keep "_law_command")) c 125 (by kernel_rfl!))
  have b59 := F59.fn.binds (ps := ["_law_parts", "_law_mode", "_law_name"]) n59 bn59
  obtain ⟨_, F60, n60⟩ := def_of (x := "_law_running") (st := top 60) X G (look_dd c 60 (d := hd60) (by kernel_rfl!)) (look_fa (f := (.glo "_law_running")) c 126 (by kernel_rfl!)) (look_fa (f := (.keep "_law_running")) c 127 (by kernel_rfl!))
  have b60 := F60.fn.binds (ps := ["_law_parts", "_law_mode", "_law_lot_here", "_law_run", "_law_told_here"]) n60 bn60
  obtain ⟨_, F61, n61⟩ := def_of (x := "_law_tick") (st := top 61) X G (look_dd c 61 (d := hd61) (by kernel_rfl!)) (look_fa (f := (.glo "_law_tick")) c 128 (by kernel_rfl!)) (look_fa (f := (.keep "_law_tick")) c 129 (by kernel_rfl!))
  have b61 := F61.fn.binds (ps := ["_law_parts", "_law_standing", "_law_alarms", "_law_order"]) n61 bn61
  obtain ⟨_, F62, n62⟩ := def_of (x := "_law_subsets") (st := top 62) X G (look_dd c 62 (d := hd62) (by kernel_rfl!)) (look_fa (f := (.glo "_law_subsets")) c 130 (by kernel_rfl!)) (look_fa (f := (.keep "_law_subsets")) c 131 (by kernel_rfl!))
  have b62 := F62.fn.binds (ps := ["_law_names_here"]) n62 bn62
  obtain ⟨_, F63, n63⟩ := def_of (x := "_law_orders") (st := top 63) X G (look_dd c 63 (d := hd63) (by kernel_rfl!)) (look_fa (f := (.glo "_law_orders")) c 132 (by kernel_rfl!)) (look_fa (f := (.keep "_law_orders")) c 133 (by kernel_rfl!))
  have b63 := F63.fn.binds (ps := ["_law_parts"]) n63 bn63
  obtain ⟨_, F64, n64⟩ := def_of (x := "_law_inputs") (st := top 64) X G (look_dd c 64 (d := hd64) (by kernel_rfl!)) (look_fa (f := (.glo "_law_inputs")) c 134 (by kernel_rfl!)) (look_fa (f := (.keep "_law_inputs")) c 135 (by kernel_rfl!))
  have b64 := F64.fn.binds (ps := ["_law_parts"]) n64 bn64
  obtain ⟨_, F65, n65⟩ := def_of (x := "_law_is_barred") (st := top 65) X G (look_dd c 65 (d := hd65) (by kernel_rfl!)) (look_fa (f := (.glo "_law_is_barred")) c 136 (by kernel_rfl!)) (look_fa (f := (.keep "_law_is_barred")) c 137 (by kernel_rfl!))
  have b65 := F65.fn.binds (ps := ["_law_parts", "_law_lot_here"]) n65 bn65
  obtain ⟨_, F66, n66⟩ := def_of (x := "_law_told") (st := top 66) X G (look_dd c 66 (d := hd66) (by kernel_rfl!)) (look_fa (f := (.glo "_law_told")) c 138 (by kernel_rfl!)) (look_fa (f := (.keep "_law_told")) c 139 (by kernel_rfl!))
  have b66 := F66.fn.binds (ps := ["_law_book_here"]) n66 bn66
  obtain ⟨_, F67, n67⟩ := def_of (x := "_law_last_moments") (st := top 67) X G (look_dd c 67 (d := hd67) (by kernel_rfl!)) (look_fa (f := (.glo "_law_last_moments")) c 140 (by kernel_rfl!)) (look_fa (f := (.keep "_law_last_moments")) c 141 (by kernel_rfl!))
  have b67 := F67.fn.binds (ps := ["_law_parts", "_law_history"]) n67 bn67
  obtain ⟨_, F68, n68⟩ := def_of (x := "_law_is_ahead") (st := top 68) X G (look_dd c 68 (d := hd68) (by kernel_rfl!)) (look_fa (f := (.glo "_law_is_ahead")) c 142 (by kernel_rfl!)) (look_fa (f := (.keep "_law_is_ahead")) c 143 (by kernel_rfl!))
  have b68 := F68.fn.binds (ps := ["_law_inputs_here", "_law_one", "_law_other"]) n68 bn68
  obtain ⟨fd, F69, n69⟩ : ∃ fd, C8.Fun K "law" "law" (top 69) (He.ga K "law") fd ∧ fd.defaults = .none := look_dd c 69 (d := hd69) (by kernel_rfl!)
  have e69 := hfa.symm.trans (He.glo_ok X G (look_fa (f := (.glo "law")) c 144 (by kernel_rfl!)))
  have e69 : fa = He.ga K "law" := Value.ref.inj (Option.some.inj e69)
  subst e69
  refine ⟨fd, fun s u => ?_, fun base => ?_⟩
  · obtain ⟨oc, od, dV, kV, doc, pm, an, cdv, ct, osl, rfl, lk, hcd⟩ := F69.ex
    have e : dV = .none := n69
    subst e
    exact .of_eq (bn69 kV doc pm an cdv ct [u] rfl)
  · have c13 := c_is_name (P := P) (w := w) (mg := mg) (base := base) F13 b13 B Gg.letters
    have c14 := c_is_lot (P := P) (w := w) (mg := mg) (base := base) F14 b14 B c13
    have c15 := c_is_lot_of (P := P) (w := w) (mg := mg) (base := base) F15 b15 B c14
    have c16 := c_are_turned (P := P) (w := w) (mg := mg) (base := base) F16 b16 B c15
    have c17 := c_require (P := P) (w := w) (mg := mg) (base := base) F17 b17 
    have c18 := c_require_names (P := P) (w := w) (mg := mg) (base := base) F18 b18 B c13 c17
    have c19 := c_is_effect (P := P) (w := w) (mg := mg) (base := base) F19 b19 c16
    have c20 := c_is_step (P := P) (w := w) (mg := mg) (base := base) F20 b20 B
    have c21 := c_names_of (P := P) (w := w) (mg := mg) (base := base) F21 b21 
    have kBook := k_Book (P := P) (w := w) (mg := mg) (base := base) MBook gBook FBook bBook B Gg oBook c17 c18 c21 c16 c15 c19 c20
    have p_holds' := p_holds (P := P) (w := w) (mg := mg) (base := base) pr_holds Fp_holds bp_holds B oBook
    have p_barred' := p_barred (P := P) (w := w) (mg := mg) (base := base) pr_barred Fp_barred bp_barred B oBook
    have p_modes' := p_modes (P := P) (w := w) (mg := mg) (base := base) pr_modes Fp_modes bp_modes B Gg oBook
    have p_commands' := p_commands (P := P) (w := w) (mg := mg) (base := base) pr_commands Fp_commands bp_commands B Gg oBook
    have p_alarms' := p_alarms (P := P) (w := w) (mg := mg) (base := base) pr_alarms Fp_alarms bp_alarms B Gg oBook
    have p_rows' := p_rows (P := P) (w := w) (mg := mg) (base := base) pr_rows Fp_rows bp_rows B Gg oBook
    have p_quiet' := p_quiet (P := P) (w := w) (mg := mg) (base := base) pr_quiet Fp_quiet bp_quiet oBook
    have p_safe' := p_safe (P := P) (w := w) (mg := mg) (base := base) pr_safe Fp_safe bp_safe Gg oBook
    have c23 := c_is_order (P := P) (w := w) (mg := mg) (base := base) F23 b23 B c21 p_commands' p_rows'
    have c24 := c_is_input (P := P) (w := w) (mg := mg) (base := base) F24 b24 B c21 p_alarms' c15 c23
    have c25 := c_check (P := P) (w := w) (mg := mg) (base := base) F25 b25 c24
    have kStep := k_Step (P := P) (w := w) (mg := mg) (base := base) MStep gStep FStep bStep B oStep
    have kGears := k_Gears (P := P) (w := w) (mg := mg) (base := base) MGears gGears FGears bGears B oGears p_safe' p_quiet' p_modes' p_commands' p_alarms' p_rows'
    have c29 := c_turned (P := P) (w := w) (mg := mg) (base := base) F29 b29 B
    have kTurn := k_Turn (P := P) (w := w) (mg := mg) (base := base) MTurn gTurn FTurn bTurn oTurn
    have meffect := m_effect (P := P) (w := w) (mg := mg) (base := base) me_effect F_effect b_effect oTurn oGears c29
    have mhalt := m_halt (CG := He.ga K "Gears") (P := P) (w := w) (mg := mg) (base := base) me_halt F_halt b_halt oTurn
    have mbegin := m_begin (P := P) (w := w) (mg := mg) (base := base) me_begin F_begin b_begin oTurn oGears B mhalt
    have mcommand := m_cmd (P := P) (w := w) (mg := mg) (base := base) me_command F_command b_command oTurn oGears meffect
    have manswer := m_answer (P := P) (w := w) (mg := mg) (base := base) me_answer F_answer b_answer oTurn oGears meffect mhalt
    have mobey := m_obey (P := P) (w := w) (mg := mg) (base := base) me_obey F_obey b_obey oTurn mcommand mhalt mbegin
    have mwait := m_wait (P := P) (w := w) (mg := mg) (base := base) me_wait F_wait b_wait oTurn oGears meffect mhalt
    have mgo_on := m_go (P := P) (w := w) (mg := mg) (base := base) me_go_on F_go_on b_go_on oTurn oGears mcommand mbegin
    have mstep := m_step (CG := He.ga K "Gears") (P := P) (w := w) (mg := mg) (base := base) me_step F_step b_step oTurn kStep
    have c31 := c_tick (P := P) (w := w) (mg := mg) (base := base) F31 b31 kTurn manswer mwait mobey mgo_on mstep
    have c32 := c_first (P := P) (w := w) (mg := mg) (base := base) F32 b32 B p_modes'
    have c33 := c_run (P := P) (w := w) (mg := mg) (base := base) F33 b33 oStep c25 kGears c32 c31
    have c34 := c_orders (P := P) (w := w) (mg := mg) (base := base) F34 b34 B p_commands' p_rows'
    have c35 := c_lots (P := P) (w := w) (mg := mg) (base := base) F35 b35 B hC
    have c36 := c_inputs (P := P) (w := w) (mg := mg) (base := base) F36 b36 p_alarms' c34 c35
    have c37 := c_is_barred (P := P) (w := w) (mg := mg) (base := base) F37 b37 B p_barred'
    have c38 := c_has_barred (P := P) (w := w) (mg := mg) (base := base) F38 b38 B c37
    have c41 := c_bef (P := P) (w := w) (mg := mg) (base := base) F41 b41 B oStep hM kGears c36 c32 c31
    have c42 := c_way (P := P) (w := w) (mg := mg) (base := base) F42 b42 
    have c43 := c_verdict (P := P) (w := w) (mg := mg) (base := base) F43 b43 B oStep c41 c42 c37 c38 kGears c36 c32 c31
    have c44 := c_ibh (P := P) (w := w) (mg := mg) (base := base) F44 b44 oStep c33 c38 c32
    have c46 := l_row (P := P) (w := w) (mg := mg) (base := base) F46 b46 B
    have c47 := l_nums (P := P) (w := w) (mg := mg) (base := base) F47 b47 B c46
    have c48 := l_names (P := P) (w := w) (mg := mg) (base := base) F48 b48 B
    have c49 := l_lot (P := P) (w := w) (mg := mg) (base := base) F49 b49 B
    have c50 := l_turned (P := P) (w := w) (mg := mg) (base := base) F50 b50 B c49
    have c51 := l_to (P := P) (w := w) (mg := mg) (base := base) F51 b51 B
    have c52 := l_effect (P := P) (w := w) (mg := mg) (base := base) F52 b52 B c50 c51
    have c53 := l_book (P := P) (w := w) (mg := mg) (base := base) F53 b53 B c48 c49 c50 c52
    have c54 := l_made (P := P) (w := w) (mg := mg) (base := base) F54 b54 B kBook
    have c55 := l_change (P := P) (w := w) (mg := mg) (base := base) F55 b55 B
    have c56 := l_effected (P := P) (w := w) (mg := mg) (base := base) F56 b56 c55
    have c57 := l_first (P := P) (w := w) (mg := mg) (base := base) F57 b57 B
    have c58 := l_steps (P := P) (w := w) (mg := mg) (base := base) F58 b58 
    have c59 := l_command (P := P) (w := w) (mg := mg) (base := base) F59 b59 
    have c60 := l_running (P := P) (w := w) (mg := mg) (base := base) F60 b60 B c58 c59 c56
    have c61 := l_tick (P := P) (w := w) (mg := mg) (base := base) F61 b61 B c58 c59 c56 c60
    have c62 := l_subsets (P := P) (w := w) (mg := mg) (base := base) F62 b62 B
    have c63 := l_orders (P := P) (w := w) (mg := mg) (base := base) F63 b63 B
    have c64 := l_inputs (P := P) (w := w) (mg := mg) (base := base) F64 b64 c62 c63
    have c65 := l_is_barred (P := P) (w := w) (mg := mg) (base := base) F65 b65 B
    have c66 := l_told (P := P) (w := w) (mg := mg) (base := base) F66 b66 c43
    have c67 := l_last (P := P) (w := w) (mg := mg) (base := base) F67 b67 c57 c61
    have c68 := l_ahead (P := P) (w := w) (mg := mg) (base := base) F68 b68 B
    exact l_law (P := P) (w := w) (mg := mg) (base := base) F69 B c47 c53 c49 c54 c66 c64 c67 c65 c44 c68
end Fw
set_option maxHeartbeats 0
namespace Fw
open PySem PySem.Spec PyProof.Rows L2
def obB (s : PySem.W.SharedT) : AlF × AlF := (ob1 s, ob2 s)
theorem look_join {fs : List Fx} {ds : List Dd} {K : PySem.W.Frag} (h1 : lookF fs [] K = wantF []) (h2 : lookF [] ds K = wantF ds) : lookF fs ds K = wantF ds := by
  have a1 : (fs.all (Fx.ok K) && ([] : List Dd).all (Dd.cod K)) = true := congrArg Prod.fst h1
  have a2 : (([] : List Fx).all (Fx.ok K) && ds.all (Dd.cod K)) = true := congrArg Prod.fst h2
  have a3 : (ds.map fun d => seenFn K (d.ad K)) = ds.map Dd.told := congrArg Prod.snd h2
  rw [Bool.and_eq_true] at a1 a2
  exact Prod.ext (by show (fs.all (Fx.ok K) && ds.all (Dd.cod K)) = true; rw [a1.1, a2.2]; rfl) a3
def hookB (n : Nat) (fs : List Fx) (ds : List Dd) : PySem.W.Hook where
  α := AlF × AlF
  obs := fun z => (lookG n fs [] z.heap.get?, lookG n [] ds z.heap.get?)
  val := fun _ => (wantF [], wantF ds)
  says := fun _ hp => ∃ Kf : PySem.W.Frag, Kf.In hp ∧ lookF fs ds Kf = wantF ds
  of := fun _ hp e => ⟨_, He.frG_in, look_join (congrArg Prod.fst e) (congrArg Prod.snd e)⟩
  keeps := fun _ h1 h2 ⟨Kf, inK, told⟩ kp => ⟨Kf, inK.keeps kp, told⟩
abbrev hkB : PySem.W.Hook := hookB 5 hdF hdD
theorem obB_eq (s : PySem.W.SharedT) : obB s = hkB.obs s.abs := Prod.ext (lookG_eq (HandSHeadRun.getT_eq s)) (lookG_eq (HandSHeadRun.getT_eq s))
theorem runB (w : World) : HandSHeadRun.RunEqI hR hQ hkB obB 20000 loAll w := by
  obtain ⟨x, hx, e1⟩ := Option.map_eq_some_iff.mp (run1 w)
  obtain ⟨y, hy, e2⟩ := Option.map_eq_some_iff.mp (run2 w)
  have exy : x = y := Option.some.inj (hx.symm.trans hy)
  subst exy
  obtain ⟨y, hy, e3⟩ := Option.map_eq_some_iff.mp (run3 w)
  have exy : x = y := Option.some.inj (hx.symm.trans hy)
  subst exy
  obtain ⟨y, hy, e4⟩ := Option.map_eq_some_iff.mp (run4 w)
  have exy : x = y := Option.some.inj (hx.symm.trans hy)
  subst exy
  unfold HandSHeadRun.RunEqI
  exact Option.map_eq_some_iff.mpr ⟨x, hx, Prod.ext e1 (Prod.ext e2 (Prod.ext e3 e4))⟩
end Fw
open PySem PySem.W PySem.Calls PyProof.Rows
theorem PySem.Challenge.cw_farword_k29_whole_barred_histories_holds : PySem.Challenge.rw_farword_k29_whole_barred_histories.Holds := by
  w_on; o_law
  refine HandSHeadRun.head_imp (r := Fw.hR) (q := Fw.hQ) (H := Fw.hkB) (ob := Fw.obB) (M := 20000) (loose := Fw.loAll) (d := HandSHeadRun.topDef Fw.hR.prog 69) (kwd := []) Fw.obB_eq Fw.runB
    (by kernel_rfl) (by kernel_rfl) (by kernel_rfl) (by rfl) (by first | assumption | decide +kernel) (by decide +kernel) ⟨rfl, rfl, rfl, rfl, rfl, by decide +kernel⟩ ?hw ?hc
  case hw => w_witness2
  case hc =>
    refine L2.walk_ofE (l := PySem.Challenge.rw_farword_k29_whole_barred_histories) (n := 63) (k := 9) (x := "_law_script") (CX := C8.CX0) rfl (by decide) (by kernel_rfl) ⟨rfl, by decide, by decide⟩ ?F (fun _ _ _ _ z => z)
    intro w mg fa h Y G hmg0
    obtain ⟨K, KX, c⟩ := Y
    have hmg : mg ("law" : PySem.Str) = some (.ref fa) := by
      have e : (HandSHeadRun.topDef Fw.hR.prog 69).name = ("law" : PySem.Str) := by kernel_rfl
      rw [← e]
      exact hmg0
    obtain ⟨fd, hb, hF⟩ := Fw.law_fn (P := PySem.Challenge.rw_farword_k29_whole_barred_histories.prog) (w := w) KX G c hmg
    refine ⟨K, fd, Fw.spP ⟨PySem.Challenge.rw_farword_k29_whole_barred_histories.prog, w, K⟩ Fw.T_law, KX, hb, fun H a ns hl _ hS => ?_, fun base _ _ => hF base⟩
    refine ⟨H, [.sq (ns.map .int)], .bl true, .refl H, .cons (.sq hS (Fw.RpA.of_ints ns)) .nil, ⟨ns, rfl, rfl⟩, fun v G' H' _ r => ?_⟩
    cases r
    rfl
