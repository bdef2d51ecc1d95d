import PyProof.Rows.All
import Wide.All
import OpenK.AllK
import Wide.FinOn
import HandS.Words
import KE.KExcInit
import HandS.ExcInit
import HandS.ExcField
import HandS.Head0
import HandS.Head1
import HandS.Head2
import HandS.HeadEnd
import HandS.HeadHook1
import HandS.HeadHook2
import HandS.HeadHook3
import HandS.HeadHook4
import HandS.ForMost
import HandS.ForExc
import HandS.CallSlots
import HandS.Walk
import HandS.Lambda
import HandS.ExcCtx
import HandS.IsInst
import HandS.Wide
import HandS.Defaults
import HandS.Deep
import HandS.TupAny
import KE.GoesMore
import PyProof.Draws
import HandS.Zip
import KE.KUnpackStar
import HandS.ExcValue
import HandS.Strs
import HandS.StrMore
import HandS.Text
import HandS.FStr
import HandS.SortKw
import HandS.Dict
import KE.DataMinMax
import ObjForm.LawKit
import HandS.DictComp
import HandS.MakeKw
import KE.KDictZip
import KE.KTurns
import HandS.Style
import HandS.TupMul
import HandS.More
import KE.GoesEnum
import HandS.HotCalls
import HandS.HeadWalk
import HandS.EndTab
import PySem.Challenge.RW_gaithold_k21_invalid_shapes
set_option Elab.async false
set_option linter.all false
set_option maxRecDepth 100000
/-! DLh: what the head looks at. -/
namespace DL
open PySem PySem.Spec PyProof.Rows L2
inductive Bs where | ve | le | ze | ie
def Bs.tail : Bs → List Value
  | .ve => [.type "ValueError", .type "Exception", .type "BaseException", .type "object"]
  | .le => [.type "LookupError", .type "Exception", .type "BaseException", .type "object"]
  | .ze => [.type "ZeroDivisionError", .type "ArithmeticError", .type "Exception", .type "BaseException", .type "object"]
  | .ie => [.type "IndexError", .type "LookupError", .type "Exception", .type "BaseException", .type "object"]
def Bs.new : Bs → String
  | .ve => "ValueError.__new__"
  | .le => "LookupError.__new__"
  | .ze => "ZeroDivisionError.__new__"
  | .ie => "IndexError.__new__"
def Bs.all : Bs → List Value × String := fun b => (b.tail, b.new)
def xcB (b : Bs) (x : Str) (fs : List Str) (K : PySem.W.Frag) : Bool :=
  PySem.W.excInitIn K (He.ga K x) b.tail b.new && (PySem.W.excOver K (He.ga K x) b.tail && (decide (PySem.W.findIn K (.ref (He.ga K x)) "__setattr__" = some (some (.builtin "object.__setattr__"))) && (decide (PySem.W.typeIn K (.ref (He.ga K x)) = some (.type "type")) && (PySem.W.keepIn K (.ref (He.ga K x)) &&
  (decide (PySem.W.findIn K (.ref (He.ga K x)) "__init__" = some (some (.ref (He.ma K (He.ga K x) "__init__")))) && (decide (PySem.W.typeIn K (.ref (He.ma K (He.ga K x) "__init__")) = some (.type "function")) && (L2.xfB K (He.ga K x) && fs.all fun f => decide (PySem.W.findIn K (.ref (He.ga K x)) f = some none))))))))
def selB (ns cs : List Str) (sel : Str → Bool) (K : PySem.W.Frag) : Bool := ns.all fun s => decide (PySem.W.exmAny K (.ref (He.ga K s)) (cs.map fun c => .ref (He.ga K c)) = some (sel s))
def bTys : List String := ["NoneType", "bool", "int", "str", "tuple", "list", "dict"]
def isoB (ns : List Str) (cls : Str) (K : PySem.W.Frag) : Bool :=
  (bTys.all fun t => decide (PySem.W.kitOne K (.type t) (.ref (He.ga K cls)) = some false) && PySem.W.notFirst K (He.ga K cls) (.type t)) &&
  ((ns.all fun n => PySem.W.plainGet K (He.ga K n) Str.empty && (PySem.W.hasDictIn K (He.ga K n) && (PySem.W.plainOver K (He.ga K n) && (decide (PySem.W.findIn K (.ref (He.ga K n)) "__setattr__" = some (some (.builtin "object.__setattr__"))) && (decide (PySem.W.findIn K (.ref (He.ga K n)) "__class__" = some (some (.builtin "object.__class__"))) &&
    (decide (PySem.W.mroIn K (He.ga K n) (.type "object") = some true) && (decide (PySem.W.kitOne K (.ref (He.ga K n)) (.ref (He.ga K cls)) = some (decide (n = cls))) && PySem.W.notFirst K (He.ga K cls) (.ref (He.ga K n))))))))) &&
  (decide (PySem.W.specialIn K (.builtin "object.__class__") "__get__" = some (some (.builtin "getset_descriptor.__get__"))) && decide (PySem.W.takesIn K (.builtin "object.__class__") = some true)))

/-! ### a Hook over the names' own objects: no growing, no duplicates left out -/
def refsY (g : Addr → Option Obj) (a : Addr) : List Addr := match g a with
  | some ⟨_, _, .func fd, _⟩ => a :: (He.refV fd.code ++ (He.refV fd.defaults ++ He.refV fd.kwdefaults))
  | some _ => [a]
  | none => []
def valsY (g : Addr → Option Obj) (a : Addr) (k : Addr → List Addr) : List Addr := match g a with
  | some ⟨_, _, .dict es _, _⟩ => es.toList.flatMap fun e => match e.val with
    | .ref b => k b
    | _ => []
  | _ => []
def asY (g : Addr → Option Obj) : List Addr := mainGlobals :: valsY g mainGlobals fun a => match g a with
  | some ⟨_, _, .cls cd, _⟩ => a :: cd.ns :: valsY g cd.ns (refsY g)
  | _ => refsY g a
def frY (g : Addr → Option Obj) : PySem.W.Frag := He.frT g (asY g)
def obsY (fa : List He.Fa) (fn : List He.DefD) (tf : List He.Defn) (ex : PySem.W.Frag → Bool) (g : Addr → Option Obj) : He.AlX := (He.obsT fa fn [] (frY g), ex (frY g) && He.tabsB g tf (frY g))
theorem saysY_of {fa : List He.Fa} {fn : List He.DefD} {tf : List He.Defn} {ex : PySem.W.Frag → Bool} {w : World} {h : Heap} (e : obsY fa fn tf ex h.get? = He.valX fn [] w) : He.SaysX fa fn [] tf ex w h (frY h.get?) := by
  have e1 : He.obsT fa fn [] (frY h.get?) = He.valT fn [] w := congrArg (fun z : He.AlX => z.1) e
  have e2 : (ex (frY h.get?) && He.tabsB h.get? tf (frY h.get?)) = true := congrArg (fun z : He.AlX => z.2) e
  obtain ⟨h1, h2⟩ := Bool.and_eq_true_iff.mp e2
  have key : ∀ p ∈ tf, PySem.W.codeHdIn (frY h.get?) (He.cT (frY h.get?) p).1 (He.cT (frY h.get?) p).2 = true ∧ ∃ o, h.get? (He.cT (frY h.get?) p).2 = some o ∧ He.emptyTab o = true := fun p hp => by
    obtain ⟨h3, h4⟩ := Bool.and_eq_true_iff.mp (List.all_eq_true.mp h2 p hp)
    refine ⟨h3, ?_⟩
    cases q : h.get? (He.cT (frY h.get?) p).2 with
    | none => rw [q] at h4; cases h4
    | some o => rw [q] at h4; exact ⟨o, rfl, h4⟩
  exact ⟨e1, h1, fun p hp => (key p hp).1, fun p hp => by
    obtain ⟨_, o, q, z⟩ := key p hp
    exact He.frT_none q z, fun p hp => by
    obtain ⟨_, o, q, z⟩ := key p hp
    rw [q, He.emptyTab_eq z]⟩
def hookY (fa : List He.Fa) (fn : List He.DefD) (tf : List He.Defn) (ex : PySem.W.Frag → Bool) : PySem.W.Hook where
  α := He.AlX
  obs := fun s => obsY fa fn tf ex s.heap.get?
  val := fun w => He.valX fn [] w
  says := fun w h => ∃ K : PySem.W.Frag, K.In h ∧ He.SaysX fa fn [] tf ex w h K
  of := fun _ _ e => ⟨_, He.frT_in, saysY_of e⟩
  keeps := fun _ _ _ ⟨K, hK, c⟩ k => ⟨K, PySem.W.Frag.In.keeps hK k, ⟨c.t, c.more, c.hd, c.out, fun p hp => k _ _ (c.empty p hp)⟩⟩
theorem obsY_eq {fa : List He.Fa} {fn : List He.DefD} {tf : List He.Defn} {ex : PySem.W.Frag → Bool} {g : Addr → Option Obj} {s : Shared} (h : ∀ a, g a = s.heap.get? a) : obsY fa fn tf ex g = (hookY fa fn tf ex).obs s := by
  have e : g = s.heap.get? := funext h
  rw [e] <;> rfl
/-! ### the run's equation by parts -/
noncomputable def endY (r : PySem.W.OpenRow) (M : Nat) (w : World) (os : OsState) : Option PySem.W.SharedT := HandSHeadRun.endF (HandSHeadRun.stepQ (HandSHeadRun.denQ HandSHeadRun.tabQ) r.prog w) M r.prog w os
def runA (r : PySem.W.OpenRow) (q : Program) (fa : List He.Fa) (tf : List He.Defn) (ex : PySem.W.Frag → Bool) (M : Nat) (loose : List PySem.Str) (w : World) : Prop :=
  ∀ os : OsState, (endY r M w os).map (fun s => (HandSHeadRun.looksF r.prog (PySem.W.boot_heap w.params) s.abs, HandSHeadRun.seenQ q loose (importedModules r.prog.main.body) (fun s => PySem.W.xlAt q [] s && PySem.W.recOk r.toRowW.records s) s.abs, fa.all (fun f => f.ok (frY (HandSHeadRun.getT s))), ex (frY (HandSHeadRun.getT s)) && He.tabsB (HandSHeadRun.getT s) tf (frY (HandSHeadRun.getT s)))) = some (true, PySem.W.openGood q loose, true, true)
def runB (r : PySem.W.OpenRow) (fn : List He.DefD) (M : Nat) (w : World) : Prop :=
  ∀ os : OsState, (endY r M w os).map (fun s => (fn.all (fun d => d.ok (frY (HandSHeadRun.getT s))), fn.map fun d => He.fnW (frY (HandSHeadRun.getT s)) d.at_)) = some (true, fn.map He.DefD.val)
theorem runB_app {r : PySem.W.OpenRow} {fn fm : List He.DefD} {M : Nat} {w : World} (h1 : runB r fn M w) (h2 : runB r fm M w) : runB r (fn ++ fm) M w := fun os => by
  have a := h1 os
  have b := h2 os
  cases q : endY r M w os with
  | none => rw [q] at a; cases a
  | some s =>
    rw [q] at a b
    simp only [Option.map_some, Option.some.injEq, Prod.mk.injEq] at a b ⊢
    rw [List.all_append, List.map_append, List.map_append, a.1, a.2, b.1, b.2]
    exact ⟨rfl, rfl⟩
theorem run_parts {r : PySem.W.OpenRow} {q : Program} {fa : List He.Fa} {fn : List He.DefD} {tf : List He.Defn} {ex : PySem.W.Frag → Bool} {M : Nat} {loose : List PySem.Str} {w : World} (h1 : runA r q fa tf ex M loose w) (h2 : runB r fn M w) : HandSHeadRun.RunEq r q (hookY fa fn tf ex) (fun s => obsY fa fn tf ex (HandSHeadRun.getT s)) M loose w := fun os => by
  have a := h1 os
  have b := h2 os
  show (endY r M w os).map _ = _
  cases e : endY r M w os with
  | none => rw [e] at a; cases a
  | some s =>
    rw [e] at a b
    simp only [Option.map_some, Option.some.injEq, Prod.mk.injEq] at a b
    refine congrArg some (Prod.ext a.1 (Prod.ext a.2.1 ?_))
    show (((fa.all (fun f => f.ok (frY (HandSHeadRun.getT s))) && fn.all (fun d => d.ok (frY (HandSHeadRun.getT s))), fn.map fun d => He.fnW (frY (HandSHeadRun.getT s)) d.at_), []), ex (frY (HandSHeadRun.getT s)) && He.tabsB (HandSHeadRun.getT s) tf (frY (HandSHeadRun.getT s))) = (((true, fn.map He.DefD.val), []), true)
    rw [a.2.2.1, a.2.2.2, b.1, b.2]
    rfl
end DL

set_option Elab.async false
set_option linter.all false
set_option maxRecDepth 100000
set_option maxHeartbeats 4000000
namespace LW
open PySem PySem.Spec PyProof.Rows L2 DL
def sel1 (s : Str) : Bool := (["GaitError", "NotFound", "InvalidShape"] : List Str).contains s
def sel2 (s : Str) : Bool := (["ZeroDenominator", "EmptyHistory"] : List Str).contains s
def topS (i : Nat) : Stmt := PySem.Challenge.pw_gaithold_k21_invalid_shapes.main.body.getD i (.Pass ⟨0, 0, 0, 0⟩)
def methS (i j : Nat) : Stmt := match topS i with
  | .ClassDef _ _ _ body .. => body.getD j (.Pass ⟨0, 0, 0, 0⟩)
  | _ => .Pass ⟨0, 0, 0, 0⟩
abbrev s_gcd : Stmt := topS 9
abbrev s_fraction : Stmt := topS 10
abbrev s_add : Stmt := topS 11
abbrev s_subtract : Stmt := topS 12
abbrev s_multiply : Stmt := topS 13
abbrev s_divide : Stmt := topS 14
abbrev s_total : Stmt := topS 15
abbrev s_check_shape : Stmt := topS 17
abbrev s_subtract_multiple : Stmt := topS 18
abbrev s_scaled : Stmt := topS 19
abbrev s_pivot : Stmt := topS 20
abbrev s_unit_row : Stmt := topS 21
abbrev s_solve_linear : Stmt := topS 22
abbrev s_check_solution : Stmt := topS 23
abbrev s__law_source : Stmt := topS 25
abbrev s__law_draw : Stmt := topS 26
abbrev s__law_choice : Stmt := topS 27
abbrev s__law_equal : Stmt := topS 28
abbrev s__law_error_field : Stmt := topS 29
abbrev s__law_outcome : Stmt := topS 30
abbrev s__law_error : Stmt := topS 31
abbrev s__law_reduce : Stmt := topS 32
abbrev s__law_add : Stmt := topS 33
abbrev s__law_multiply : Stmt := topS 34
abbrev s__law_sum : Stmt := topS 35
abbrev s__law_small : Stmt := topS 36
abbrev s__law_linear_case : Stmt := topS 37
abbrev s_law : Stmt := topS 38
abbrev d_gcd : He.DefD := ⟨("gcd", none), "gcd", "gcd", defArgs s_gcd, defBody s_gcd, defScope s_gcd, [], []⟩
abbrev d_fraction : He.DefD := ⟨("fraction", none), "fraction", "fraction", defArgs s_fraction, defBody s_fraction, defScope s_fraction, [.int 1], []⟩
abbrev d_add : He.DefD := ⟨("add", none), "add", "add", defArgs s_add, defBody s_add, defScope s_add, [], []⟩
abbrev d_subtract : He.DefD := ⟨("subtract", none), "subtract", "subtract", defArgs s_subtract, defBody s_subtract, defScope s_subtract, [], []⟩
abbrev d_multiply : He.DefD := ⟨("multiply", none), "multiply", "multiply", defArgs s_multiply, defBody s_multiply, defScope s_multiply, [], []⟩
abbrev d_divide : He.DefD := ⟨("divide", none), "divide", "divide", defArgs s_divide, defBody s_divide, defScope s_divide, [], []⟩
abbrev d_total : He.DefD := ⟨("total", none), "total", "total", defArgs s_total, defBody s_total, defScope s_total, [], [("start", .glo "ZERO")]⟩
abbrev d_check_shape : He.DefD := ⟨("check_shape", none), "check_shape", "check_shape", defArgs s_check_shape, defBody s_check_shape, defScope s_check_shape, [], []⟩
abbrev d_subtract_multiple : He.DefD := ⟨("subtract_multiple", none), "subtract_multiple", "subtract_multiple", defArgs s_subtract_multiple, defBody s_subtract_multiple, defScope s_subtract_multiple, [], []⟩
abbrev d_scaled : He.DefD := ⟨("scaled", none), "scaled", "scaled", defArgs s_scaled, defBody s_scaled, defScope s_scaled, [], []⟩
abbrev d_pivot : He.DefD := ⟨("pivot", none), "pivot", "pivot", defArgs s_pivot, defBody s_pivot, defScope s_pivot, [], []⟩
abbrev d_unit_row : He.DefD := ⟨("unit_row", none), "unit_row", "unit_row", defArgs s_unit_row, defBody s_unit_row, defScope s_unit_row, [], []⟩
abbrev d_solve_linear : He.DefD := ⟨("solve_linear", none), "solve_linear", "solve_linear", defArgs s_solve_linear, defBody s_solve_linear, defScope s_solve_linear, [], []⟩
abbrev d_check_solution : He.DefD := ⟨("check_solution", none), "check_solution", "check_solution", defArgs s_check_solution, defBody s_check_solution, defScope s_check_solution, [], []⟩
abbrev d__law_source : He.DefD := ⟨("_law_source", none), "_law_source", "_law_source", defArgs s__law_source, defBody s__law_source, defScope s__law_source, [], []⟩
abbrev d__law_draw : He.DefD := ⟨("_law_draw", none), "_law_draw", "_law_draw", defArgs s__law_draw, defBody s__law_draw, defScope s__law_draw, [], []⟩
abbrev d__law_choice : He.DefD := ⟨("_law_choice", none), "_law_choice", "_law_choice", defArgs s__law_choice, defBody s__law_choice, defScope s__law_choice, [], []⟩
abbrev d__law_equal : He.DefD := ⟨("_law_equal", none), "_law_equal", "_law_equal", defArgs s__law_equal, defBody s__law_equal, defScope s__law_equal, [], []⟩
abbrev d__law_error_field : He.DefD := ⟨("_law_error_field", none), "_law_error_field", "_law_error_field", defArgs s__law_error_field, defBody s__law_error_field, defScope s__law_error_field, [], []⟩
abbrev d__law_outcome : He.DefD := ⟨("_law_outcome", none), "_law_outcome", "_law_outcome", defArgs s__law_outcome, defBody s__law_outcome, defScope s__law_outcome, [], []⟩
abbrev d__law_error : He.DefD := ⟨("_law_error", none), "_law_error", "_law_error", defArgs s__law_error, defBody s__law_error, defScope s__law_error, [], []⟩
abbrev d__law_reduce : He.DefD := ⟨("_law_reduce", none), "_law_reduce", "_law_reduce", defArgs s__law_reduce, defBody s__law_reduce, defScope s__law_reduce, [], []⟩
abbrev d__law_add : He.DefD := ⟨("_law_add", none), "_law_add", "_law_add", defArgs s__law_add, defBody s__law_add, defScope s__law_add, [], []⟩
abbrev d__law_multiply : He.DefD := ⟨("_law_multiply", none), "_law_multiply", "_law_multiply", defArgs s__law_multiply, defBody s__law_multiply, defScope s__law_multiply, [], []⟩
abbrev d__law_sum : He.DefD := ⟨("_law_sum", none), "_law_sum", "_law_sum", defArgs s__law_sum, defBody s__law_sum, defScope s__law_sum, [], []⟩
abbrev d__law_small : He.DefD := ⟨("_law_small", none), "_law_small", "_law_small", defArgs s__law_small, defBody s__law_small, defScope s__law_small, [], []⟩
abbrev d__law_linear_case : He.DefD := ⟨("_law_linear_case", none), "_law_linear_case", "_law_linear_case", defArgs s__law_linear_case, defBody s__law_linear_case, defScope s__law_linear_case, [], []⟩
abbrev d_law : He.DefD := ⟨("law", none), "law", "law", defArgs s_law, defBody s_law, defScope s_law, [], []⟩
abbrev e_InvalidShape : Stmt := methS 4 0
abbrev d_InvalidShape : He.DefD := ⟨("InvalidShape", some "__init__"), "__init__", "InvalidShape.__init__", defArgs e_InvalidShape, defBody e_InvalidShape, defScope e_InvalidShape, [], []⟩
def exns : List Str := ["InvalidShape"]
def fn_0 : List He.DefD := [d_gcd, d_fraction, d_add, d_subtract, d_multiply, d_divide, d_total, d_check_shape, d_subtract_multiple, d_scaled, d_pivot, d_unit_row, d_solve_linear, d_check_solution, d__law_source, d__law_draw, d__law_choice, d__law_equal, d__law_error_field, d__law_outcome, d__law_error, d__law_reduce, d__law_add, d__law_multiply, d__law_sum, d__law_small, d__law_linear_case, d_law, d_InvalidShape]
def fn : List He.DefD := fn_0
def fa_0 : List He.Fa := [.glo "gcd", .glo "fraction", .glo "add", .glo "subtract", .glo "multiply", .glo "divide", .glo "total", .glo "check_shape", .glo "subtract_multiple", .glo "scaled", .glo "pivot", .glo "unit_row", .glo "solve_linear", .glo "check_solution", .glo "_law_source", .glo "_law_draw", .glo "_law_choice", .glo "_law_equal", .glo "_law_error_field", .glo "_law_outcome", .glo "_law_error", .glo "_law_reduce", .glo "_law_add", .glo "_law_multiply", .glo "_law_sum", .glo "_law_small", .glo "_law_linear_case", .glo "law", .free "abs", .free "all"]
def fa_1 : List He.Fa := [.free "bool", .free "enumerate", .free "int", .free "isinstance", .free "len", .free "list", .free "range", .free "str", .free "tuple", .free "zip", .glo "ZERO", .glo "ONE", .glo "EmptyHistory", .glo "GaitError", .glo "InvalidShape", .glo "NotFound", .glo "ZeroDenominator"]
def fa : List He.Fa := fa_0 ++ fa_1
def exs_0 : List (PySem.W.Frag → Bool) := [(fun K => He.tupB K "ZERO" [.int 0, .int 1]), (fun K => He.tupB K "ONE" [.int 1, .int 1]), xcB .ve "InvalidShape" ["tag", "pos"], selB exns ["GaitError", "NotFound"] sel1, selB exns ["ZeroDenominator", "EmptyHistory"] sel2]
def exs : List (PySem.W.Frag → Bool) := exs_0
def loose_0 : List PySem.Str := ["GaitError", "NotFound", "ZeroDenominator", "InvalidShape", "EmptyHistory", "ZERO", "ONE", "gcd", "fraction", "add", "subtract", "multiply", "divide", "total", "check_shape", "subtract_multiple", "scaled", "pivot", "unit_row", "solve_linear", "check_solution", "_law_source", "_law_draw", "_law_choice", "_law_equal", "_law_error_field", "_law_outcome", "_law_error", "_law_reduce", "_law_add"]
def loose_1 : List PySem.Str := ["_law_multiply", "_law_sum", "_law_small", "_law_linear_case"]
def loose : List PySem.Str := loose_0 ++ loose_1
def ex (K : PySem.W.Frag) : Bool := exs.all fun f => f K
abbrev R : PySem.W.OpenRow := PySem.W.OpenLaw.row PySem.Challenge.rw_gaithold_k21_invalid_shapes
abbrev hk : PySem.W.Hook := hookY fa fn [("law", none)] ex
def ob (s : PySem.W.SharedT) : He.AlX := obsY fa fn [("law", none)] ex (HandSHeadRun.getT s)
theorem ob_eq (s : PySem.W.SharedT) : ob s = hk.obs s.abs := obsY_eq (HandSHeadRun.getT_eq s)
set_option maxHeartbeats 0 in
theorem run_a (w : World) : runA R (PySem.W.view R.prog [38]) fa [("law", none)] ex 20000 loose w := by
  intro os
  kernel_rfl
set_option maxHeartbeats 0 in
theorem run_b (w : World) : runB R fn 20000 w := by
  intro os
  kernel_rfl
theorem run (w : World) : HandSHeadRun.RunEq R (PySem.W.view R.prog [38]) hk ob 20000 loose w := run_parts (run_a w) (run_b w)

end LW

set_option Elab.async false
set_option linter.all false
set_option maxRecDepth 100000
/-! DL0: values as trees, what represents them, the state of a def that builds and reads them. -/
namespace DL
open PySem L2

inductive D where
  | non | bl (b : Bool) | int (i : Int) | str (x : Str)
  | tup (l : List D) | lst (l : List D)
  | dic (ks : List Key) (l : List D)
  | ins (c : Str) (ns : List Str) (l : List D)
  deriving Inhabited

/-- the written part and the classes by name -/
structure G where
  K : PySem.W.Frag
  cm : Str → Option Addr
  tb : List (Addr × Str)

mutual
def Rep (g : G) (H : Hp) (A : Addr → Prop) : D → V → Prop
  | .non, v => v = .non
  | .bl b, v => v = .bl b
  | .int i, v => v = .int i
  | .str x, v => v = .str x
  | .tup l, v => ∃ a vs, v = .ref a ∧ SqT g.K H a vs ∧ RepL g H A l vs
  | .lst l, v => ∃ a vs, v = .ref a ∧ A a ∧ H a = some (.lst vs) ∧ RepL g H A l vs
  | .dic ks l, v => ∃ a vs, v = .ref a ∧ A a ∧ H a = some (.dK (ks.zip vs)) ∧ ks.length = vs.length ∧ RepL g H A l vs
  | .ins c ns l, v => ∃ a C dx vs, v = .ref a ∧ A a ∧ g.cm c = some C ∧ H a = some (.ins C dx (ns.zip vs)) ∧ ns.length = vs.length ∧ RepL g H A l vs
def RepL (g : G) (H : Hp) (A : Addr → Prop) : List D → List V → Prop
  | [], vs => vs = []
  | d :: l, vs => ∃ v r, vs = v :: r ∧ Rep g H A d v ∧ RepL g H A l r
end

theorem RepL.nil {g : G} {H : Hp} {A : Addr → Prop} : RepL g H A [] [] := by rw [RepL]
theorem RepL.cons {g : G} {H : Hp} {A : Addr → Prop} {d : D} {v : V} {l : List D} {r : List V} (h : Rep g H A d v) (hr : RepL g H A l r) : RepL g H A (d :: l) (v :: r) := by
  rw [RepL]; exact ⟨v, r, rfl, h, hr⟩
theorem RepL.length {g : G} {H : Hp} {A : Addr → Prop} : ∀ {l : List D} {vs : List V}, RepL g H A l vs → l.length = vs.length
  | [], vs, h => by rw [RepL] at h; subst h; rfl
  | d :: l, vs, h => by
    rw [RepL] at h; obtain ⟨v, r, rfl, _, hr⟩ := h
    simp [RepL.length hr]
theorem RepL.append {g : G} {H : Hp} {A : Addr → Prop} : ∀ {l l' : List D} {vs vs' : List V}, RepL g H A l vs → RepL g H A l' vs' → RepL g H A (l ++ l') (vs ++ vs')
  | [], l', vs, vs', h, h' => by rw [RepL] at h; subst h; exact h'
  | d :: l, l', vs, vs', h, h' => by
    rw [RepL] at h; obtain ⟨v, r, rfl, hv, hr⟩ := h
    exact RepL.cons hv (RepL.append hr h')
theorem RepL.get {g : G} {H : Hp} {A : Addr → Prop} : ∀ {l : List D} {vs : List V} {i : Nat} {d : D}, RepL g H A l vs → l[i]? = some d → ∃ v, vs[i]? = some v ∧ Rep g H A d v
  | [], vs, i, d, h, e => by simp at e
  | d :: l, vs, 0, d', h, e => by
    rw [RepL] at h; obtain ⟨v, r, rfl, hv, hr⟩ := h
    simp at e; subst e; exact ⟨v, rfl, hv⟩
  | d :: l, vs, i + 1, d', h, e => by
    rw [RepL] at h; obtain ⟨v, r, rfl, hv, hr⟩ := h
    obtain ⟨u, e1, e2⟩ := RepL.get (i := i) (d := d') hr (by simpa using e)
    exact ⟨u, by simpa using e1, e2⟩
theorem RepL.getV {g : G} {H : Hp} {A : Addr → Prop} : ∀ {l : List D} {vs : List V} {i : Nat} {v : V}, RepL g H A l vs → vs[i]? = some v → ∃ d, l[i]? = some d ∧ Rep g H A d v
  | [], vs, i, d, h, e => by rw [RepL] at h; subst h; simp at e
  | d :: l, vs, 0, d', h, e => by
    rw [RepL] at h; obtain ⟨v, r, rfl, hv, hr⟩ := h
    simp at e; subst e; exact ⟨d, rfl, hv⟩
  | d :: l, vs, i + 1, d', h, e => by
    rw [RepL] at h; obtain ⟨v, r, rfl, hv, hr⟩ := h
    obtain ⟨u, e1, e2⟩ := RepL.getV (i := i) (v := d') hr (by simpa using e)
    exact ⟨u, by simpa using e1, e2⟩
theorem RepL.take {g : G} {H : Hp} {A : Addr → Prop} : ∀ {l : List D} {vs : List V} (n : Nat), RepL g H A l vs → RepL g H A (l.take n) (vs.take n)
  | [], vs, n, h => by rw [RepL] at h; subst h; simp; exact RepL.nil
  | d :: l, vs, 0, h => by simp; exact RepL.nil
  | d :: l, vs, n + 1, h => by
    rw [RepL] at h; obtain ⟨v, r, rfl, hv, hr⟩ := h
    exact RepL.cons hv (RepL.take n hr)
theorem RepL.drop {g : G} {H : Hp} {A : Addr → Prop} : ∀ {l : List D} {vs : List V} (n : Nat), RepL g H A l vs → RepL g H A (l.drop n) (vs.drop n)
  | [], vs, n, h => by rw [RepL] at h; subst h; simp; exact RepL.nil
  | d :: l, vs, 0, h => by simpa using h
  | d :: l, vs, n + 1, h => by
    rw [RepL] at h; obtain ⟨v, r, rfl, hv, hr⟩ := h
    simpa using RepL.drop n hr
theorem RepL.set {g : G} {H : Hp} {A : Addr → Prop} {d' : D} {v' : V} (hx : Rep g H A d' v') : ∀ {l : List D} {vs : List V} (n : Nat), RepL g H A l vs → RepL g H A (l.set n d') (vs.set n v')
  | [], vs, n, h => by rw [RepL] at h; subst h; simp; exact RepL.nil
  | d :: l, vs, 0, h => by
    rw [RepL] at h; obtain ⟨v, r, rfl, hv, hr⟩ := h
    exact RepL.cons hx hr
  | d :: l, vs, n + 1, h => by
    rw [RepL] at h; obtain ⟨v, r, rfl, hv, hr⟩ := h
    exact RepL.cons hv (RepL.set hx n hr)

/-- what is kept for trees whose lists lie within A -/
structure Keep (A : Addr → Prop) (H H' : Hp) : Prop where
  tup : ∀ a xs, Rd H a (.tup xs) → Rd H' a (.tup xs)
  all : ∀ a o, A a → H a = some o → H' a = some o
theorem Keep.same {A : Addr → Prop} {H H' : Hp} (s : Same H H') : Keep A H H' :=
  ⟨fun a xs h => h.elim (fun e => .inl (s _ _ e)) (fun ⟨o, e⟩ => .inr ⟨o, s _ _ e⟩), fun a o _ e => s _ _ e⟩
theorem Keep.sqT {K : PySem.W.Frag} {A : Addr → Prop} {H H' : Hp} {a : Addr} {xs : List V} (k : Keep A H H') (h : SqT K H a xs) : SqT K H' a xs := by
  rcases h with h | h
  · exact .inl (k.tup _ _ h)
  · exact .inr h
mutual
theorem Rep.mono {g : G} {H H' : Hp} {A A' : Addr → Prop} (k : Keep A H H') (hA : ∀ a, A a → (∃ o, H a = some o) → A' a) : ∀ {d : D} {v : V}, Rep g H A d v → Rep g H' A' d v
  | .non, v, h => by rw [Rep] at h ⊢; exact h
  | .bl b, v, h => by rw [Rep] at h ⊢; exact h
  | .int b, v, h => by rw [Rep] at h ⊢; exact h
  | .str b, v, h => by rw [Rep] at h ⊢; exact h
  | .tup l, v, h => by
    rw [Rep] at h ⊢; obtain ⟨a, vs, e, h1, h2⟩ := h
    exact ⟨a, vs, e, k.sqT h1, RepL.mono k hA h2⟩
  | .lst l, v, h => by
    rw [Rep] at h ⊢; obtain ⟨a, vs, e, h0, h1, h2⟩ := h
    exact ⟨a, vs, e, hA a h0 ⟨_, h1⟩, k.all _ _ h0 h1, RepL.mono k hA h2⟩
  | .dic ks l, v, h => by
    rw [Rep] at h ⊢; obtain ⟨a, vs, e, h0, h1, h2, h3⟩ := h
    exact ⟨a, vs, e, hA a h0 ⟨_, h1⟩, k.all _ _ h0 h1, h2, RepL.mono k hA h3⟩
  | .ins c ns l, v, h => by
    rw [Rep] at h ⊢; obtain ⟨a, C, dx, vs, e, h0, hc, h1, h2, h3⟩ := h
    exact ⟨a, C, dx, vs, e, hA a h0 ⟨_, h1⟩, hc, k.all _ _ h0 h1, h2, RepL.mono k hA h3⟩
theorem RepL.mono {g : G} {H H' : Hp} {A A' : Addr → Prop} (k : Keep A H H') (hA : ∀ a, A a → (∃ o, H a = some o) → A' a) : ∀ {l : List D} {vs : List V}, RepL g H A l vs → RepL g H' A' l vs
  | [], vs, h => by rw [RepL] at h ⊢; exact h
  | d :: l, vs, h => by
    rw [RepL] at h ⊢; obtain ⟨v, r, e, h1, h2⟩ := h
    exact ⟨v, r, e, Rep.mono k hA h1, RepL.mono k hA h2⟩
end
/-- no list, no dict, no instance within -/
def D.flat : D → Bool
  | .non | .bl _ | .int _ | .str _ => true
  | _ => false
mutual
def D.noLst : D → Bool
  | .non | .bl _ | .int _ | .str _ => true
  | .tup l => D.noLstL l
  | .lst _ | .dic _ _ | .ins _ _ _ => false
def D.noLstL : List D → Bool
  | [] => true
  | d :: l => d.noLst && D.noLstL l
end
mutual
theorem Rep.any {g : G} {H : Hp} {A A' : Addr → Prop} : ∀ {d : D} {v : V}, d.noLst = true → Rep g H A d v → Rep g H A' d v
  | .non, v, _, h => by rw [Rep] at h ⊢; exact h
  | .bl b, v, _, h => by rw [Rep] at h ⊢; exact h
  | .int b, v, _, h => by rw [Rep] at h ⊢; exact h
  | .str b, v, _, h => by rw [Rep] at h ⊢; exact h
  | .tup l, v, n, h => by
    rw [Rep] at h ⊢; obtain ⟨a, vs, e, h1, h2⟩ := h
    rw [D.noLst] at n
    exact ⟨a, vs, e, h1, RepL.any n h2⟩
  | .lst l, v, n, h => by rw [D.noLst] at n; cases n
  | .dic ks l, v, n, h => by rw [D.noLst] at n; cases n
  | .ins c ns l, v, n, h => by rw [D.noLst] at n; cases n
theorem RepL.any {g : G} {H : Hp} {A A' : Addr → Prop} : ∀ {l : List D} {vs : List V}, D.noLstL l = true → RepL g H A l vs → RepL g H A' l vs
  | [], vs, _, h => by rw [RepL] at h ⊢; exact h
  | d :: l, vs, n, h => by
    rw [RepL] at h ⊢; obtain ⟨v, r, e, h1, h2⟩ := h
    rw [D.noLstL, Bool.and_eq_true] at n
    exact ⟨v, r, e, Rep.any n.1 h1, RepL.any n.2 h2⟩
end
end DL

set_option Elab.async false
set_option linter.all false
set_option maxRecDepth 100000
/-! DL1: what a def computes on trees, the state relation, the judgements. -/
namespace DL
open PySem L2

structure Rng where
  cells : List Int
  i : Int
  b : Int
  s : Int
structure Exc where
  cls : Str
  ns : List Str
  l : List D
inductive Res (α : Type) where
  | ok (a : α)
  | err (x : Exc)
  | stuck
def Res.bind {α β : Type} (r : Res α) (k : α → Res β) : Res β :=
  match r with
  | .ok a => k a
  | .err x => .err x
  | .stuck => .stuck
inductive Slot where
  | un
  | ex (x : Exc)
  | sh (d : D)
  | ow (l : List D)
  | rng
  | me
abbrev En := List Slot
inductive Out where
  | nx (e : En) (g : Rng)
  | rt (d : D) (g : Rng)
  | bk (e : En) (g : Rng)
  | ct (e : En) (g : Rng)
abbrev ME := En → Rng → Res (D × Rng)
abbrev MT := En → Rng → Res (Bool × Rng)
abbrev MA := En → Rng → Res (List D × Rng)
abbrev MS := En → Rng → Res Out

structure Ctx where
  X : Cx
  cm : Str → Option Addr
  tb : List (Addr × Str)
  W : WX
  H0 : Hp
  A : Addr → Prop
  rg : Option (Addr × Addr)
  exc : Option (Addr × Obj) := none
  me : Option Addr := none
/-- what callees may change: the drawing's list, the tables of code objects -/
def Ctx.io (C : Ctx) (a : Addr) : Prop := (∃ c, C.rg = some (a, c)) ∨ ∃ p ∈ C.tb, p.1 = a
/-- a list or a table -/
def MutO (o : HO) : Prop := (∃ xs, o = .lst xs) ∨ ∃ ps, o = .tbl ps
abbrev Tabs := LamX.Tabs
theorem Tabs.at_ {T : List (Addr × Str)} {H : Hp} (t : Tabs T H) {p : Addr × Str} (hp : p ∈ T) : ∃ o, H p.1 = some o ∧ MutO o := by
  obtain ⟨ps, h, _⟩ := t p hp
  exact ⟨_, h, .inr ⟨ps, rfl⟩⟩
theorem codeO_lst {c : Addr} {q : Str} {xs : List V} : LamX.CodeO c q ≠ .lst xs := fun z => by
  unfold LamX.CodeO at z
  cases z
/-- a list changes: the tables stay -/
theorem Tabs.upd {T : List (Addr × Str)} {H : Hp} {a : Addr} {xs : List V} {o : HO} (t : Tabs T H) (h : H a = some (.lst xs)) : Tabs T (upd H a o) := fun p hp => by
  obtain ⟨ps, h1, h2, h3⟩ := t p hp
  have n1 : p.1 ≠ a := fun z => by rw [z, h] at h1; cases h1
  refine ⟨ps, by rw [upd_ne n1]; exact h1, h2, fun pos cv hc => ?_⟩
  obtain ⟨c, e1, e2⟩ := h3 pos cv hc
  have n2 : c ≠ a := fun z => by rw [z, h] at e2; exact codeO_lst (Option.some.inj e2).symm
  exact ⟨c, e1, by rw [upd_ne n2]; exact e2⟩
abbrev Ctx.g (C : Ctx) : G := ⟨C.X.K, C.cm, C.tb⟩
abbrev Own := Nat → Option Addr
def Ctx.Al (C : Ctx) (own : Own) (a : Addr) : Prop := (C.A a ∨ C.H0 a = none) ∧ (∀ j, own j ≠ some a) ∧ ¬ C.io a
structure RngAt (H : Hp) (r c : Addr) (g : Rng) : Prop where
  ne : c ≠ r
  at_ : H r = some (.lst [.ref c, .int g.i, .int g.b, .int g.s])
  ce : H c = some (.lst (g.cells.map V.int))
  i0 : 0 ≤ g.i
  b0 : 0 ≤ g.b
  s0 : 0 ≤ g.s
  s1 : g.s < 2147483563
  cl : g.cells.length ≤ 63
/-- what must hold of a class whose instances' fields are read -/
def XfOk (K : PySem.W.Frag) (C : Addr) (ns : List Str) : Prop := L2.XfC K C ∧ ∀ n ∈ ns, PySem.W.findIn K (.ref C) n = some none
/-- the caught exception that the context bears -/
def ExR (C : Ctx) (own : Own) (H : Hp) (o : Option (Option V)) (x : Exc) : Prop := ∃ a oe Ca dd vs, C.exc = some (a, oe) ∧ o = some (some (.ref a)) ∧ Zc (.ref Ca) (some dd) oe ∧ (∃ us, oe.data = .fields us) ∧ XfOk C.X.K Ca x.ns ∧ H dd = some (.xd (x.ns.zip vs)) ∧ x.ns.length = vs.length ∧ RepL C.g H (C.Al own) x.l vs
def SlR (C : Ctx) (own : Own) (H : Hp) (o : Option (Option V)) (i : Nat) : Slot → Prop
  | .un => True
  | .ex x => ExR C own H o x
  | .sh d => ∃ v, o = some (some v) ∧ Rep C.g H (C.Al own) d v
  | .ow l => ∃ p vs, own i = some p ∧ o = some (some (.ref p)) ∧ H p = some (.lst vs) ∧ RepL C.g H (C.Al own) l vs
  | .rng => ∃ r c, C.rg = some (r, c) ∧ o = some (some (.ref r))
  | .me => ∃ a, C.me = some a ∧ o = some (some (.ref a))
structure SR (C : Ctx) (own : Own) (F H : Hp) (σ : L2.St) (e : En) (g : Rng) : Prop where
  len : σ.length = e.length
  sl : ∀ i s, e[i]? = some s → SlR C own H (σ[i]?) i s
  on : ∀ i p, own i = some p → (∃ xs, H p = some (.lst xs)) ∧ C.H0 p = none ∧ ¬ C.io p
  ph : ∀ i p, own i = some p → i < e.length → ∃ l, e[i]? = some (.ow l)
  inj : ∀ i j p, own i = some p → own j = some p → i = j
  fin : ∃ n, ∀ j, n ≤ j → own j = none
  h0 : ∀ a o, C.H0 a = some o → ¬ C.io a → H a = some o
  fr : ∀ a o, F a = some o → H a = some o ∧ (∀ j, own j ≠ some a) ∧ ¬ C.io a
  io : ∀ a, C.io a → ∃ o, H a = some o ∧ MutO o
  tb : Tabs C.tb H
  ih : ∀ a, C.io a → C.H0 a ≠ none
  rg : ∀ r c, C.rg = some (r, c) → C.io r ∧ ¬ C.io c ∧ C.H0 c ≠ none ∧ RngAt H r c g
def ExtI (C : Ctx) (H H' : Hp) : Prop := ∀ a o, H a = some o → ¬ C.io a → H' a = some o
theorem ExtI.refl {C : Ctx} (H : Hp) : ExtI C H H := fun _ _ h _ => h
theorem ExtI.trans {C : Ctx} {H H1 H2 : Hp} (a : ExtI C H H1) (b : ExtI C H1 H2) : ExtI C H H2 := fun x o h n => b x o (a x o h n) n
theorem ExtI.of {C : Ctx} {H H' : Hp} (s : Same H H') : ExtI C H H' := fun a o h _ => s a o h

section
variable {C : Ctx} {own : Own} {F H H' : Hp} {σ : L2.St} {e : En} {g g' : Rng}
theorem SR.keep (S : SR C own F H σ e g) (x : ExtI C H H') : Keep (C.Al own) H H' := by
  refine ⟨fun a xs h => ?_, fun a o h1 h2 => x a o h2 h1.2.2⟩
  have n : ¬ C.io a := fun hi => by
    obtain ⟨ob, hy, hm⟩ := S.io a hi
    rcases hm with ⟨ys, rfl⟩ | ⟨ys, rfl⟩ <;> rcases h with h | ⟨o, h⟩ <;> (rw [hy] at h; cases h)
  rcases h with h | ⟨o, h⟩
  · exact .inl (x _ _ h n)
  · exact .inr ⟨o, x _ _ h n⟩
theorem SR.rep (S : SR C own F H σ e g) (x : ExtI C H H') {d : D} {v : V} (h : Rep C.g H (C.Al own) d v) : Rep C.g H' (C.Al own) d v :=
  h.mono (S.keep x) fun _ a _ => a
theorem SR.repL (S : SR C own F H σ e g) (x : ExtI C H H') {d : List D} {v : List V} (h : RepL C.g H (C.Al own) d v) : RepL C.g H' (C.Al own) d v :=
  h.mono (S.keep x) fun _ a _ => a
theorem ExR.mono {own' : Own} {o : Option (Option V)} {x : Exc} (r : ExR C own H o x) (k : Keep (C.Al own) H H') (xd : ∀ a fs, H a = some (.xd fs) → H' a = some (.xd fs)) (up : ∀ a, C.Al own a → (∃ o, H a = some o) → C.Al own' a) : ExR C own' H' o x := by
  obtain ⟨a, oe, Ca, dd, vs, h1, h2, h3, h4, h5, h6, h7, h8⟩ := r
  exact ⟨a, oe, Ca, dd, vs, h1, h2, h3, h4, h5, xd _ _ h6, h7, h8.mono k up⟩
theorem SR.noXd (S : SR C own F H σ e g) {a : Addr} {fs : List (Str × V)} (h : H a = some (.xd fs)) : ¬ C.io a ∧ ∀ j, own j ≠ some a := by
  refine ⟨fun hi => ?_, fun j hj => ?_⟩
  · obtain ⟨o, q, m⟩ := S.io a hi
    rw [h] at q; cases q
    rcases m with ⟨_, z⟩ | ⟨_, z⟩ <;> cases z
  · obtain ⟨⟨xs, q⟩, _⟩ := S.on j a hj
    rw [h] at q; cases q
theorem SR.xdExt (S : SR C own F H σ e g) (x : ExtI C H H') : ∀ a fs, H a = some (.xd fs) → H' a = some (.xd fs) := fun a fs h => x a _ h (S.noXd h).1
/-- the state behind an expression -/
theorem SR.ext (S : SR C own F H σ e g) (x : ExtI C H H') (io : ∀ a, C.io a → ∃ o, H' a = some o ∧ MutO o) (tb : Tabs C.tb H') (rg : ∀ r c, C.rg = some (r, c) → RngAt H' r c g') : SR C own F H' σ e g' where
  len := S.len
  sl := fun i s hs => by
    have q := S.sl i s hs
    cases s with
    | un => trivial
    | ex z => exact q.mono (S.keep x) (S.xdExt x) fun _ a _ => a
    | sh d => obtain ⟨v, e1, e2⟩ := q; exact ⟨v, e1, S.rep x e2⟩
    | ow l =>
      obtain ⟨p, vs, e1, e2, e3, e4⟩ := q
      exact ⟨p, vs, e1, e2, x _ _ e3 (S.on i p e1).2.2, S.repL x e4⟩
    | rng => exact q
    | me => exact q
  on := fun i p h => by
    obtain ⟨⟨xs, h1⟩, h2, h3⟩ := S.on i p h
    exact ⟨⟨xs, x _ _ h1 h3⟩, h2, h3⟩
  ph := S.ph
  inj := S.inj
  fin := S.fin
  h0 := fun a o h n => x _ _ (S.h0 a o h n) n
  fr := fun a o h => by
    obtain ⟨h1, h2, h3⟩ := S.fr a o h
    exact ⟨x _ _ h1 h3, h2, h3⟩
  io := io
  tb := tb
  ih := S.ih
  rg := fun r c h => by
    obtain ⟨h1, h2, h3, h4⟩ := S.rg r c h
    exact ⟨h1, h2, h3, rg r c h⟩
theorem RngAt.same {r c : Addr} (R : RngAt H r c g) (s : Same H H') : RngAt H' r c g := ⟨R.ne, s _ _ R.at_, s _ _ R.ce, R.i0, R.b0, R.s0, R.s1, R.cl⟩
theorem SR.same (S : SR C own F H σ e g) (s : Same H H') : SR C own F H' σ e g :=
  S.ext (.of s) (fun a h => by obtain ⟨o, q, m⟩ := S.io a h; exact ⟨o, s _ _ q, m⟩) (S.tb.ext s) fun r c h => (S.rg r c h).2.2.2.same s
theorem SR.fresh (S : SR C own F H σ e g) {a : Addr} (h : H a = none) : C.Al own a := by
  refine ⟨.inr ?_, fun j hj => ?_, fun hi => ?_⟩
  · cases q : C.H0 a with
    | none => rfl
    | some o =>
      by_cases hi : C.io a
      · obtain ⟨xs, z, _⟩ := S.io a hi
        rw [h] at z; cases z
      · have z := S.h0 a o q hi
        rw [h] at z; cases z
  · obtain ⟨⟨xs, z⟩, _⟩ := S.on j a hj
    rw [h] at z; cases z
  · obtain ⟨xs, z, _⟩ := S.io a hi
    rw [h] at z; cases z
end

/-- what a call may do: the tables may grow -/
def SameT (T : List (Addr × Str)) (H H' : Hp) : Prop := ∀ a o, H a = some o → (∀ p ∈ T, p.1 ≠ a) → H' a = some o
theorem SameT.of {T : List (Addr × Str)} {H H' : Hp} (s : Same H H') : SameT T H H' := fun a o h _ => s a o h
theorem SR.call {C : Ctx} {own : Own} {F H H' : Hp} {σ : L2.St} {e : En} {g : Rng} (S : SR C own F H σ e g) (s : SameT C.tb H H') (t : Tabs C.tb H') : ExtI C H H' ∧ SR C own F H' σ e g := by
  have x : ExtI C H H' := fun a o h n => s a o h fun p hp z => n (.inr ⟨p, hp, z⟩)
  have nt : ∀ a xs, H a = some (.lst xs) → ∀ p ∈ C.tb, p.1 ≠ a := fun a xs h p hp z => by
    obtain ⟨ps, h1, _⟩ := S.tb p hp
    rw [z, h] at h1; cases h1
  have R' : ∀ r c, C.rg = some (r, c) → RngAt H' r c g := fun r c h => by
    obtain ⟨_, _, _, R⟩ := S.rg r c h
    exact ⟨R.ne, s _ _ R.at_ (nt _ _ R.at_), s _ _ R.ce (nt _ _ R.ce), R.i0, R.b0, R.s0, R.s1, R.cl⟩
  refine ⟨x, S.ext x (fun a hi => ?_) t R'⟩
  rcases hi with ⟨c, h⟩ | ⟨p, hp, rfl⟩
  · exact ⟨_, (R' a c h).at_, .inl ⟨_, rfl⟩⟩
  · exact t.at_ hp
/-- an exception as it lies -/
def RepX (g : G) (H : Hp) (A : Addr → Prop) (x : Exc) (c : Value) (dd : Option Addr) : Prop :=
  ∃ Ca d vs, (g.cm x.cls = some Ca ∧ XfOk g.K Ca x.ns) ∧ c = .ref Ca ∧ dd = some d ∧ H d = some (.xd (x.ns.zip vs)) ∧ x.ns.length = vs.length ∧ RepL g H A x.l vs
/-- what is wanted behind an expression -/
def OutE (C : Ctx) (own : Own) (F : Hp) (σ : L2.St) (e : En) (H : Hp) (r : Res (D × Rng)) (Q : VK) : Prop :=
  match r with
  | .ok (d, g') => ∀ H' v, ExtI C H H' → SR C own F H' σ e g' → Rep C.g H' (C.Al own) d v → Q v H'
  | .err x => ∀ H' c dd, ExtI C H H' → (∃ g', SR C own F H' σ e g') → RepX C.g H' (C.Al own) x c dd → C.W c dd σ H'
  | .stuck => False
def OutT (C : Ctx) (own : Own) (F : Hp) (σ : L2.St) (e : En) (H : Hp) (r : Res (Bool × Rng)) (Q : Bool → Hp → Prop) : Prop :=
  match r with
  | .ok (d, g') => ∀ H', ExtI C H H' → SR C own F H' σ e g' → Q d H'
  | .err x => ∀ H' c dd, ExtI C H H' → (∃ g', SR C own F H' σ e g') → RepX C.g H' (C.Al own) x c dd → C.W c dd σ H'
  | .stuck => False
def OutA (C : Ctx) (own : Own) (F : Hp) (σ : L2.St) (e : En) (H : Hp) (r : Res (List D × Rng)) (Q : List V → Hp → Prop) : Prop :=
  match r with
  | .ok (d, g') => ∀ H' v, ExtI C H H' → SR C own F H' σ e g' → RepL C.g H' (C.Al own) d v → Q v H'
  | .err x => ∀ H' c dd, ExtI C H H' → (∃ g', SR C own F H' σ e g') → RepX C.g H' (C.Al own) x c dd → C.W c dd σ H'
  | .stuck => False
def tD (C : Ctx) (f : ME) : TE := fun σ H Q => ∃ own F e g, SR C own F H σ e g ∧ OutE C own F σ e H (f e g) Q
def tDT (C : Ctx) (f : MT) : TT := fun σ H Q => ∃ own F e g, SR C own F H σ e g ∧ OutT C own F σ e H (f e g) Q
def tDA (C : Ctx) (f : MA) : TA := fun σ H Q => ∃ own F e g, SR C own F H σ e g ∧ OutA C own F σ e H (f e g) Q
def DE (C : Ctx) (x : Expr) (f : ME) : Prop := PE C.X x (tD C f)
def DT (C : Ctx) (x : Expr) (f : MT) : Prop := PT C.X x (tDT C f)
def DA (C : Ctx) (xs : List Expr) (f : MA) : Prop := PA C.X xs (tDA C f)

section
variable {X : Cx}
theorem pe_imp {x : Expr} {t t' : TE} (h : PE X x t) (i : ∀ σ H Q, t' σ H Q → t σ H Q) : PE X x t' := ⟨fun pins s σ H Q I q => h.run pins s σ H Q I (i σ H Q q)⟩
theorem pt_imp {x : Expr} {t t' : TT} (h : PT X x t) (i : ∀ σ H Q, t' σ H Q → t σ H Q) : PT X x t' := ⟨fun pins s σ H Q I q => h.run pins s σ H Q I (i σ H Q q)⟩
theorem pa_imp {x : List Expr} {t t' : TA} (h : PA X x t) (i : ∀ σ H Q, t' σ H Q → t σ H Q) : PA X x t' := ⟨fun pos pins s σ H Q I q => h.run pos pins s σ H Q I (i σ H Q q)⟩
theorem ps_imp {x : Stmt} {t t' : TS} (h : PS X x t) (i : ∀ D σ H, t' D σ H → t D σ H) : PS X x t' := ⟨fun pins s σ H D I q => h.run pins s σ H D I (i D σ H q)⟩
theorem pss_imp {x : List Stmt} {t t' : TS} (h : PSs X x t) (i : ∀ D σ H, t' D σ H → t D σ H) : PSs X x t' := ⟨fun pins s σ H D I q => h.run pins s σ H D I (i D σ H q)⟩
end

section
variable {C : Ctx} {own : Own} {F H H1 H' : Hp} {σ : L2.St} {e : En} {g g' : Rng}
theorem OutE.bindE {r : Res (D × Rng)} {k : D × Rng → Res (D × Rng)} {Q Q1 : VK} (h : OutE C own F σ e H (r.bind k) Q)
    (hq : ∀ d g1 H1 v, ExtI C H H1 → SR C own F H1 σ e g1 → Rep C.g H1 (C.Al own) d v → OutE C own F σ e H1 (k (d, g1)) Q → Q1 v H1) : OutE C own F σ e H r Q1 := by
  cases r with
  | ok a =>
    obtain ⟨d, g1⟩ := a
    intro H1 v x S r1
    refine hq d g1 H1 v x S r1 ?_
    have h' : OutE C own F σ e H (k (d, g1)) Q := h
    cases hk : k (d, g1) with
    | ok a =>
      rw [hk] at h'
      exact fun H2 w x2 => h' H2 w (x.trans x2)
    | err y =>
      rw [hk] at h'
      exact fun H2 c dd x2 => h' H2 c dd (x.trans x2)
    | stuck => rw [hk] at h'; exact h'
  | err y => exact h
  | stuck => exact h
theorem OutA.bindE {r : Res (D × Rng)} {k : D × Rng → Res (List D × Rng)} {Q : List V → Hp → Prop} {Q1 : VK} (h : OutA C own F σ e H (r.bind k) Q)
    (hq : ∀ d g1 H1 v, ExtI C H H1 → SR C own F H1 σ e g1 → Rep C.g H1 (C.Al own) d v → OutA C own F σ e H1 (k (d, g1)) Q → Q1 v H1) : OutE C own F σ e H r Q1 := by
  cases r with
  | ok a =>
    obtain ⟨d, g1⟩ := a
    intro H1 v x S r1
    refine hq d g1 H1 v x S r1 ?_
    have h' : OutA C own F σ e H (k (d, g1)) Q := h
    cases hk : k (d, g1) with
    | ok a =>
      rw [hk] at h'
      exact fun H2 w x2 => h' H2 w (x.trans x2)
    | err y =>
      rw [hk] at h'
      exact fun H2 c dd x2 => h' H2 c dd (x.trans x2)
    | stuck => rw [hk] at h'; exact h'
  | err y => exact h
  | stuck => exact h
theorem OutT.bindE {r : Res (D × Rng)} {k : D × Rng → Res (Bool × Rng)} {Q : Bool → Hp → Prop} {Q1 : VK} (h : OutT C own F σ e H (r.bind k) Q)
    (hq : ∀ d g1 H1 v, ExtI C H H1 → SR C own F H1 σ e g1 → Rep C.g H1 (C.Al own) d v → OutT C own F σ e H1 (k (d, g1)) Q → Q1 v H1) : OutE C own F σ e H r Q1 := by
  cases r with
  | ok a =>
    obtain ⟨d, g1⟩ := a
    intro H1 v x S r1
    refine hq d g1 H1 v x S r1 ?_
    have h' : OutT C own F σ e H (k (d, g1)) Q := h
    cases hk : k (d, g1) with
    | ok a =>
      rw [hk] at h'
      exact fun H2 x2 => h' H2 (x.trans x2)
    | err y =>
      rw [hk] at h'
      exact fun H2 c dd x2 => h' H2 c dd (x.trans x2)
    | stuck => rw [hk] at h'; exact h'
  | err y => exact h
  | stuck => exact h
theorem OutE.bindT {r : Res (Bool × Rng)} {k : Bool × Rng → Res (D × Rng)} {Q : VK} {Q1 : Bool → Hp → Prop} (h : OutE C own F σ e H (r.bind k) Q)
    (hq : ∀ d g1 H1, ExtI C H H1 → SR C own F H1 σ e g1 → OutE C own F σ e H1 (k (d, g1)) Q → Q1 d H1) : OutT C own F σ e H r Q1 := by
  cases r with
  | ok a =>
    obtain ⟨d, g1⟩ := a
    intro H1 x S
    refine hq d g1 H1 x S ?_
    have h' : OutE C own F σ e H (k (d, g1)) Q := h
    cases hk : k (d, g1) with
    | ok a =>
      rw [hk] at h'
      exact fun H2 w x2 => h' H2 w (x.trans x2)
    | err y =>
      rw [hk] at h'
      exact fun H2 c dd x2 => h' H2 c dd (x.trans x2)
    | stuck => rw [hk] at h'; exact h'
  | err y => exact h
  | stuck => exact h
theorem OutT.bindT {r : Res (Bool × Rng)} {k : Bool × Rng → Res (Bool × Rng)} {Q : Bool → Hp → Prop} {Q1 : Bool → Hp → Prop} (h : OutT C own F σ e H (r.bind k) Q)
    (hq : ∀ d g1 H1, ExtI C H H1 → SR C own F H1 σ e g1 → OutT C own F σ e H1 (k (d, g1)) Q → Q1 d H1) : OutT C own F σ e H r Q1 := by
  cases r with
  | ok a =>
    obtain ⟨d, g1⟩ := a
    intro H1 x S
    refine hq d g1 H1 x S ?_
    have h' : OutT C own F σ e H (k (d, g1)) Q := h
    cases hk : k (d, g1) with
    | ok a =>
      rw [hk] at h'
      exact fun H2 x2 => h' H2 (x.trans x2)
    | err y =>
      rw [hk] at h'
      exact fun H2 c dd x2 => h' H2 c dd (x.trans x2)
    | stuck => rw [hk] at h'; exact h'
  | err y => exact h
  | stuck => exact h
theorem OutE.bindA {r : Res (List D × Rng)} {k : List D × Rng → Res (D × Rng)} {Q : VK} {Q1 : List V → Hp → Prop} (h : OutE C own F σ e H (r.bind k) Q)
    (hq : ∀ d g1 H1 v, ExtI C H H1 → SR C own F H1 σ e g1 → RepL C.g H1 (C.Al own) d v → OutE C own F σ e H1 (k (d, g1)) Q → Q1 v H1) : OutA C own F σ e H r Q1 := by
  cases r with
  | ok a =>
    obtain ⟨d, g1⟩ := a
    intro H1 v x S r1
    refine hq d g1 H1 v x S r1 ?_
    have h' : OutE C own F σ e H (k (d, g1)) Q := h
    cases hk : k (d, g1) with
    | ok a =>
      rw [hk] at h'
      exact fun H2 w x2 => h' H2 w (x.trans x2)
    | err y =>
      rw [hk] at h'
      exact fun H2 c dd x2 => h' H2 c dd (x.trans x2)
    | stuck => rw [hk] at h'; exact h'
  | err y => exact h
  | stuck => exact h
theorem OutA.bindA {r : Res (List D × Rng)} {k : List D × Rng → Res (List D × Rng)} {Q : List V → Hp → Prop} {Q1 : List V → Hp → Prop} (h : OutA C own F σ e H (r.bind k) Q)
    (hq : ∀ d g1 H1 v, ExtI C H H1 → SR C own F H1 σ e g1 → RepL C.g H1 (C.Al own) d v → OutA C own F σ e H1 (k (d, g1)) Q → Q1 v H1) : OutA C own F σ e H r Q1 := by
  cases r with
  | ok a =>
    obtain ⟨d, g1⟩ := a
    intro H1 v x S r1
    refine hq d g1 H1 v x S r1 ?_
    have h' : OutA C own F σ e H (k (d, g1)) Q := h
    cases hk : k (d, g1) with
    | ok a =>
      rw [hk] at h'
      exact fun H2 w x2 => h' H2 w (x.trans x2)
    | err y =>
      rw [hk] at h'
      exact fun H2 c dd x2 => h' H2 c dd (x.trans x2)
    | stuck => rw [hk] at h'; exact h'
  | err y => exact h
  | stuck => exact h
end

/-- what is wanted of a value's operation -/
def OutV (g : G) (H : Hp) (A : Addr → Prop) (r : Res D) (Q : VK) : Prop :=
  match r with
  | .ok d => ∀ H' v, Same H H' → Rep g H' (fun a => A a ∨ H a = none) d v → Q v H'
  | _ => False
def pureG {α : Type} (r : Res α) (g : Rng) : Res (α × Rng) := r.bind fun d => .ok (d, g)
section
variable {C : Ctx} {own : Own} {F H H1 H' : Hp} {σ : L2.St} {e : En} {g g' : Rng}
theorem OutE.toV {r : Res D} {Q : VK} (S : SR C own F H σ e g) (nx : ∀ x, r ≠ .err x) (h : OutE C own F σ e H (pureG r g) Q) : OutV C.g H (C.Al own) r Q := by
  cases r with
  | ok d =>
    intro H' v s rp
    refine h H' v (.of s) (S.same s) (rp.mono (.same fun _ _ z => z) fun a q ⟨o, z⟩ => ?_)
    rcases q with q | q
    · exact q
    · exact S.fresh q
  | err x => exact (nx x rfl).elim
  | stuck => exact h
theorem OutE.now {d : D} {v : V} {Q : VK} (S : SR C own F H σ e g) (h : OutE C own F σ e H (.ok (d, g)) Q) (r : Rep C.g H (C.Al own) d v) : Q v H := h H v (.refl H) S r
end
end DL

set_option Elab.async false
set_option linter.all false
set_option maxRecDepth 100000
/-! DL2: expressions: names, constants, operators, comparisons, displays, subscripts, built-ins. -/
namespace DL
open PySem L2

/-! ### operations on trees -/
def OpD (g : G) (r : R2) (f : D → D → Res D) : Prop := ∀ x y v w H A Q, Rep g H A x v → Rep g H A y w → OutV g H A (f x y) Q → r v w H Q
def UnD (g : G) (r : V → Hp → VK → Prop) (f : D → Res D) : Prop := ∀ x v H A Q, Rep g H A x v → OutV g H A (f x) Q → r v H Q
def CallD (g : G) (r : List V → Hp → VK → Prop) (f : List D → Res D) : Prop := ∀ xs vs H A Q, RepL g H A xs vs → OutV g H A (f xs) Q → r vs H Q

section
variable {g : G} {H : Hp} {A : Addr → Prop}
theorem Rep.toNon {v : V} (h : Rep g H A .non v) : v = .non := by rw [Rep] at h; exact h
theorem Rep.toInt {i : Int} {v : V} (h : Rep g H A (.int i) v) : v = .int i := by rw [Rep] at h; exact h
theorem Rep.toBl {i : Bool} {v : V} (h : Rep g H A (.bl i) v) : v = .bl i := by rw [Rep] at h; exact h
theorem Rep.toStr {i : Str} {v : V} (h : Rep g H A (.str i) v) : v = .str i := by rw [Rep] at h; exact h
theorem Rep.toTup {l : List D} {v : V} (h : Rep g H A (.tup l) v) : ∃ a vs, v = .ref a ∧ SqT g.K H a vs ∧ RepL g H A l vs := by rw [Rep] at h; exact h
theorem Rep.toLst {l : List D} {v : V} (h : Rep g H A (.lst l) v) : ∃ a vs, v = .ref a ∧ A a ∧ H a = some (.lst vs) ∧ RepL g H A l vs := by rw [Rep] at h; exact h
theorem Rep.toIns {c : Str} {ns : List Str} {l : List D} {v : V} (h : Rep g H A (.ins c ns l) v) : ∃ a C dx vs, v = .ref a ∧ A a ∧ g.cm c = some C ∧ H a = some (.ins C dx (ns.zip vs)) ∧ ns.length = vs.length ∧ RepL g H A l vs := by rw [Rep] at h; exact h
theorem Rep.non_ : Rep g H A .non .non := by rw [Rep]
theorem Rep.int_ (i : Int) : Rep g H A (.int i) (.int i) := by rw [Rep]
theorem Rep.bl_ (i : Bool) : Rep g H A (.bl i) (.bl i) := by rw [Rep]
theorem Rep.str_ (i : Str) : Rep g H A (.str i) (.str i) := by rw [Rep]
theorem Rep.tup_ {l : List D} {a : Addr} {vs : List V} (h : SqT g.K H a vs) (hl : RepL g H A l vs) : Rep g H A (.tup l) (.ref a) := by rw [Rep]; exact ⟨a, vs, rfl, h, hl⟩
theorem Rep.lst_ {l : List D} {a : Addr} {vs : List V} (ha : A a) (h : H a = some (.lst vs)) (hl : RepL g H A l vs) : Rep g H A (.lst l) (.ref a) := by rw [Rep]; exact ⟨a, vs, rfl, ha, h, hl⟩
theorem RepL.toNil {vs : List V} (h : RepL g H A [] vs) : vs = [] := by rw [RepL] at h; exact h
theorem RepL.toCons {d : D} {l : List D} {vs : List V} (h : RepL g H A (d :: l) vs) : ∃ v r, vs = v :: r ∧ Rep g H A d v ∧ RepL g H A l r := by rw [RepL] at h; exact h
theorem OutV.now {d : D} {v : V} {Q : VK} (h : OutV g H A (.ok d) Q) (r : Rep g H A d v) : Q v H :=
  h H v (fun _ _ z => z) (r.mono (.same fun _ _ z => z) fun a q _ => .inl q)
theorem OutV.int {i : Int} {Q : VK} (h : OutV g H A (.ok (.int i)) Q) : Q (.int i) H := h.now (.int_ i)
theorem OutV.bl {i : Bool} {Q : VK} (h : OutV g H A (.ok (.bl i)) Q) : Q (.bl i) H := h.now (.bl_ i)
theorem OutV.str {i : Str} {Q : VK} (h : OutV g H A (.ok (.str i)) Q) : Q (.str i) H := h.now (.str_ i)
/-- a new object -/
theorem OutV.newL {l : List D} {vs : List V} {p : Addr} {Q : VK} (h : OutV g H A (.ok (.lst l)) Q) (n : H p = none) (r : RepL g H A l vs) : Q (.ref p) (upd H p (.lst vs)) := by
  have s : Same H (upd H p (.lst vs)) := fun a o e => by rw [upd_ne (ne_of_none e n)]; exact e
  exact h _ _ s (.lst_ (.inr n) upd_same (r.mono (.same s) fun a q _ => .inl q))
theorem OutV.newT {l : List D} {vs : List V} {p : Addr} {Q : VK} (h : OutV g H A (.ok (.tup l)) Q) (n : H p = none) (r : RepL g H A l vs) : Q (.ref p) (upd H p (.tup vs)) := by
  have s : Same H (upd H p (.tup vs)) := fun a o e => by rw [upd_ne (ne_of_none e n)]; exact e
  exact h _ _ s (.tup_ (.inl (.inl upd_same)) (r.mono (.same s) fun a q _ => .inl q))
end

/-! ### the expressions' functions -/
def eVar (i : Nat) : ME := fun e g => match e[i]? with
  | some (.sh d) => .ok (d, g)
  | _ => .stuck
def eC (d : D) : ME := fun _ g => .ok (d, g)
def eOp (f : D → D → Res D) (a b : ME) : ME := fun e g => (a e g).bind fun p => (b e p.2).bind fun q => pureG (f p.1 q.1) q.2
def eUn (f : D → Res D) (a : ME) : ME := fun e g => (a e g).bind fun p => pureG (f p.1) p.2
def eTest (a : ME) : MT := fun e g => (a e g).bind fun p => match p.1 with
  | .bl b => .ok (b, p.2)
  | _ => .stuck
def aNil : MA := fun _ g => .ok ([], g)
def aCons (a : ME) (b : MA) : MA := fun e g => (a e g).bind fun p => (b e p.2).bind fun q => .ok (p.1 :: q.1, q.2)
def eCall (f : List D → Res D) (a : MA) : ME := fun e g => (a e g).bind fun p => pureG (f p.1) p.2

section
variable {C : Ctx} {x a b : Expr} {fa fb : ME} {pos : Pos}

theorem de_var {i : Nat} (h : PE C.X x (tVar i)) : DE C x (eVar i) := pe_imp h fun σ H Q ⟨own, F, e, g, S, o⟩ => by
  unfold eVar at o
  cases hs : e[i]? with
  | none => rw [hs] at o; exact o.elim
  | some s =>
    rw [hs] at o
    cases s with
    | sh d =>
      obtain ⟨v, e1, e2⟩ := S.sl i _ hs
      exact ⟨v, e1, OutE.now S o e2⟩
    | un => exact o.elim
    | ex z => exact o.elim
    | ow l => exact o.elim
    | rng => exact o.elim
    | me => exact o.elim
theorem de_const {d : D} {v : V} (h : PE C.X x (tC v)) (r : ∀ H A, Rep C.g H A d v) : DE C x (eC d) := pe_imp h fun σ H Q ⟨own, F, e, g, S, o⟩ => OutE.now S o (r _ _)
theorem de_int {i : Int} {j : Nat} : DE C (.Constant (.int i) j pos) (eC (.int i)) := de_const pe_int fun _ _ => .int_ i
theorem de_bl {i : Bool} {j : Nat} : DE C (.Constant (.bool i) j pos) (eC (.bl i)) := de_const pe_bl fun _ _ => .bl_ i
theorem de_non {j : Nat} : DE C (.Constant .none j pos) (eC .non) := de_const pe_non fun _ _ => .non_
theorem de_str {i : Str} {j : Nat} : DE C (.Constant (.str i) j pos) (eC (.str i)) := de_const pe_str fun _ _ => .str_ i

theorem tD_op {r : R2} {f : D → D → Res D} (hr : OpD C.g r f) (nx : ∀ x y z, f x y ≠ .err z) : ∀ σ H Q, tD C (eOp f fa fb) σ H Q → tOp r (tD C fa) (tD C fb) σ H Q :=
  fun σ H Q ⟨own, F, e, g, S, o⟩ => ⟨own, F, e, g, S, OutE.bindE o fun x g1 H1 v x1 S1 r1 o1 => ⟨own, F, e, g1, S1, OutE.bindE o1 fun y g2 H2 w x2 S2 r2 o2 => hr x y v w H2 _ Q (S1.rep x2 r1) r2 (o2.toV S2 (nx _ _))⟩⟩
theorem de_bin {op : Operator} {r : R2} {f : D → D → Res D} (ho : OpR C.X (binaryOp op) r) (hr : OpD C.g r f) (nx : ∀ x y z, f x y ≠ .err z) (ha : DE C a fa) (hb : DE C b fb) : DE C (.BinOp a op b pos) (eOp f fa fb) :=
  pe_imp (pe_op ho ha hb) (tD_op hr nx)
theorem de_cmp {op : CmpOp} {r : R2} {f : D → D → Res D} (ho : OpR C.X (compareOp op) r) (hr : OpD C.g r f) (nx : ∀ x y z, f x y ≠ .err z) (ha : DE C a fa) (hb : DE C b fb) (hm : behindInMarks op b = false) : DE C (.Compare a [op] [b] pos) (eOp f fa fb) :=
  pe_imp (pe_cmpR ho ha hb hm) (tD_op hr nx)
theorem tDT_test {t : TE} {f : ME} (h : ∀ σ H Q, tD C f σ H Q → t σ H Q) : ∀ σ H Q, tDT C (eTest f) σ H Q → tTest t σ H Q :=
  fun σ H Q ⟨own, F, e, g, S, o⟩ => h σ H _ ⟨own, F, e, g, S, OutT.bindE o fun d g1 H1 v x1 S1 r1 o1 => by
    cases d with
    | bl b => exact ⟨b, r1.toBl, o1 H1 (.refl H1) S1⟩
    | _ => exact o1.elim⟩
theorem dt_cmp {op : CmpOp} {r : R2} {f : D → D → Res D} (ho : OpR C.X (compareOp op) r) (hr : OpD C.g r f) (nx : ∀ x y z, f x y ≠ .err z) (ha : DE C a fa) (hb : DE C b fb) (hm : behindInMarks op b = false) : DT C (.Compare a [op] [b] pos) (eTest (eOp f fa fb)) :=
  pt_imp (pt_cmpR ho ha hb hm) (tDT_test (tD_op hr nx))
/-- an expression whose value is a bool, as a test -/
theorem dt_val (ha : DE C a fa) (he : ∀ whole, isTrue a C.X.env whole = (do let v ← whole; standAt a.pos; holding [v] (truthy v)) := by intro _; rfl) : DT C a (eTest fa) :=
  pt_imp (pt_val ha he) (tDT_test fun _ _ _ h => h)

/-! #### and, or, not, if else -/
def tAndM (a b : MT) : MT := fun e g => (a e g).bind fun p => if p.1 = true then b e p.2 else .ok (false, p.2)
def tOrM (a b : MT) : MT := fun e g => (a e g).bind fun p => if p.1 = true then .ok (true, p.2) else b e p.2
def tNotM (a : MT) : MT := fun e g => (a e g).bind fun p => .ok (!p.1, p.2)
def eIf (c : MT) (a b : ME) : ME := fun e g => (c e g).bind fun p => if p.1 = true then a e p.2 else b e p.2
def DW (C : Ctx) (x : Expr) (f : MT) : Prop := PW C.X x (tDT C f)
theorem pw_imp {X : Cx} {x : Expr} {t t' : TT} (h : PW X x t) (i : ∀ σ H Q, t' σ H Q → t σ H Q) : PW X x t' := ⟨fun wh pins s σ H Q I q => h.run wh pins s σ H Q I (i σ H Q q)⟩
variable {ta tb : MT} {rest : List Expr}
theorem dw_and1 (ha : DT C a ta) : DW C (.BoolOp .And [a] pos) ta := pw_and1 ha
theorem dw_or1 (ha : DT C a ta) : DW C (.BoolOp .Or [a] pos) ta := pw_or1 ha
theorem dw_and (ha : DT C a ta) (hb : DW C (.BoolOp .And (b :: rest) pos) tb) : DW C (.BoolOp .And (a :: b :: rest) pos) (tAndM ta tb) :=
  pw_imp (pw_and ha hb) fun σ H Q ⟨own, F, e, g, S, o⟩ => ⟨own, F, e, g, S, OutT.bindT o fun d g1 H1 x1 S1 o1 => by
    cases d with
    | true => exact ⟨own, F, e, g1, S1, o1⟩
    | false => exact o1 H1 (.refl H1) S1⟩
theorem dw_or (ha : DT C a ta) (hb : DW C (.BoolOp .Or (b :: rest) pos) tb) : DW C (.BoolOp .Or (a :: b :: rest) pos) (tOrM ta tb) :=
  pw_imp (pw_or ha hb) fun σ H Q ⟨own, F, e, g, S, o⟩ => ⟨own, F, e, g, S, OutT.bindT o fun d g1 H1 x1 S1 o1 => by
    cases d with
    | false => exact ⟨own, F, e, g1, S1, o1⟩
    | true => exact o1 H1 (.refl H1) S1⟩
theorem DW.pt (h : DW C x ta) : DT C x ta := PW.pt h
theorem dt_not (ha : DT C a ta) : DT C (.UnaryOp .Not a pos) (tNotM ta) :=
  pt_imp (pt_not ha) fun σ H Q ⟨own, F, e, g, S, o⟩ => ⟨own, F, e, g, S, OutT.bindT o fun d g1 H1 x1 S1 o1 => o1 H1 (.refl H1) S1⟩
theorem de_ifExp {c : Expr} {tc : MT} (hc : DT C c tc) (ha : DE C a fa) (hb : DE C b fb) : DE C (.IfExp c a b pos) (eIf tc fa fb) :=
  pe_imp (pe_ifExp hc ha hb) fun σ H Q ⟨own, F, e, g, S, o⟩ => ⟨own, F, e, g, S, OutE.bindT o fun d g1 H1 x1 S1 o1 => by
    cases d with
    | true => exact ⟨own, F, e, g1, S1, o1⟩
    | false => exact ⟨own, F, e, g1, S1, o1⟩⟩
/-- .. as values -/
def eAnd (a b : ME) : ME := fun e g => (a e g).bind fun p => match p.1 with
  | .bl true => b e p.2
  | .bl false => .ok (.bl false, p.2)
  | _ => .stuck
def eOr (a b : ME) : ME := fun e g => (a e g).bind fun p => match p.1 with
  | .bl false => b e p.2
  | .bl true => .ok (.bl true, p.2)
  | _ => .stuck
def eNot (a : ME) : ME := fun e g => (a e g).bind fun p => match p.1 with
  | .bl b => .ok (.bl (!b), p.2)
  | _ => .stuck
theorem de_one {op : BoolOp} (ha : DE C a fa) : DE C (.BoolOp op [a] pos) fa := pe_one ha
theorem de_and (ha : DE C a fa) (hb : DE C (.BoolOp .And (b :: rest) pos) fb) : DE C (.BoolOp .And (a :: b :: rest) pos) (eAnd fa fb) :=
  pe_imp (pe_and ha hb) fun σ H Q ⟨own, F, e, g, S, o⟩ => ⟨own, F, e, g, S, OutE.bindE o fun d g1 H1 v x1 S1 r1 o1 => by
    cases d with
    | bl c =>
      refine ⟨c, r1.toBl, ?_⟩
      cases c with
      | true => exact ⟨own, F, e, g1, S1, o1⟩
      | false => exact OutE.now S1 o1 (.bl_ _)
    | _ => exact o1.elim⟩
theorem de_or (ha : DE C a fa) (hb : DE C (.BoolOp .Or (b :: rest) pos) fb) : DE C (.BoolOp .Or (a :: b :: rest) pos) (eOr fa fb) :=
  pe_imp (pe_or ha hb) fun σ H Q ⟨own, F, e, g, S, o⟩ => ⟨own, F, e, g, S, OutE.bindE o fun d g1 H1 v x1 S1 r1 o1 => by
    cases d with
    | bl c =>
      refine ⟨c, r1.toBl, ?_⟩
      cases c with
      | false => exact ⟨own, F, e, g1, S1, o1⟩
      | true => exact OutE.now S1 o1 (.bl_ _)
    | _ => exact o1.elim⟩
theorem de_not (ha : DE C a fa) : DE C (.UnaryOp .Not a pos) (eNot fa) :=
  pe_imp (pe_not ha) fun σ H Q ⟨own, F, e, g, S, o⟩ => ⟨own, F, e, g, S, OutE.bindE o fun d g1 H1 v x1 S1 r1 o1 => by
    cases d with
    | bl c => exact ⟨c, r1.toBl, OutE.now S1 o1 (.bl_ _)⟩
    | _ => exact o1.elim⟩
theorem de_un {op : UnaryOp} {r : V → Hp → VK → Prop} {f : D → Res D} (ho : UnR C.X (unaryOp op) r) (hr : UnD C.g r f) (nx : ∀ x z, f x ≠ .err z) (ha : DE C a fa) (h : ∀ {t : TE}, PE C.X a t → PE C.X (.UnaryOp op a pos) (tUn r t)) : DE C (.UnaryOp op a pos) (eUn f fa) :=
  pe_imp (h ha) fun σ H Q ⟨own, F, e, g, S, o⟩ => ⟨own, F, e, g, S, OutE.bindE o fun d g1 H1 v x1 S1 r1 o1 => hr d v H1 _ Q r1 (o1.toV S1 (nx _))⟩

/-! #### arguments, displays, built-ins -/
theorem da_nil : DA C [] aNil := pa_imp pa_nil fun σ H Q ⟨own, F, e, g, S, o⟩ => o H [] (.refl H) S .nil
theorem da_cons {es : List Expr} {fr : MA} (ha : DE C a fa) (hr : DA C es fr) (hs : starEach (a :: es) C.X.env = (false, eval a C.X.env) :: starEach es C.X.env := by rfl) : DA C (a :: es) (aCons fa fr) :=
  pa_imp (pa_cons ha hr hs) fun σ H Q ⟨own, F, e, g, S, o⟩ => ⟨own, F, e, g, S, OutA.bindE o fun d g1 H1 v x1 S1 r1 o1 => ⟨own, F, e, g1, S1, OutA.bindA o1 fun l g2 H2 vs x2 S2 r2 o2 => o2 H2 (v :: vs) (.refl H2) S2 (.cons (S1.rep x2 r1) r2)⟩⟩
def eTup (a : MA) : ME := fun e g => (a e g).bind fun p => if p.1.length ≤ 1000 then .ok (.tup p.1, p.2) else .stuck
def eLst (a : MA) : ME := fun e g => (a e g).bind fun p => if p.1.length ≤ 1000 then .ok (.lst p.1, p.2) else .stuck
theorem le_line {n : Nat} (h : n ≤ 1000) : n ≤ sizeLine := Nat.le_trans h (by decide)
theorem pureG_ok {d : D} {g : Rng} : (.ok (d, g) : Res (D × Rng)) = pureG (.ok d) g := rfl
theorem de_tup {es : List Expr} {fs : MA} (h : ∀ {t : TA}, PA C.X es t → PE C.X x (tTup t)) (ha : DA C es fs) : DE C x (eTup fs) :=
  pe_imp (h ha) fun σ H Q ⟨own, F, e, g, S, o⟩ => ⟨own, F, e, g, S, OutE.bindA o fun l g1 H1 vs x1 S1 r1 o1 => by
    by_cases hl : l.length ≤ 1000
    · simp only [hl, if_true] at o1
      rw [pureG_ok] at o1
      exact ⟨by rw [← r1.length]; exact le_line hl, fun p hp => (o1.toV S1 (by intro z h; cases h)).newT hp r1⟩
    · simp only [hl, if_false] at o1
      exact o1.elim⟩
theorem de_lst {es : List Expr} {fs : MA} (h : ∀ {t : TA}, PA C.X es t → PE C.X x (tLst t)) (ha : DA C es fs) : DE C x (eLst fs) :=
  pe_imp (h ha) fun σ H Q ⟨own, F, e, g, S, o⟩ => ⟨own, F, e, g, S, OutE.bindA o fun l g1 H1 vs x1 S1 r1 o1 => by
    by_cases hl : l.length ≤ 1000
    · simp only [hl, if_true] at o1
      rw [pureG_ok] at o1
      exact ⟨by rw [← r1.length]; exact le_line hl, fun p hp => (o1.toV S1 (by intro z h; cases h)).newL hp r1⟩
    · simp only [hl, if_false] at o1
      exact o1.elim⟩
theorem tD_call {r : List V → Hp → VK → Prop} {f : List D → Res D} {fs : MA} (hr : CallD C.g r f) (nx : ∀ x z, f x ≠ .err z) : ∀ σ H Q, tD C (eCall f fs) σ H Q → tCB r (tDA C fs) σ H Q :=
  fun σ H Q ⟨own, F, e, g, S, o⟩ => ⟨own, F, e, g, S, OutE.bindA o fun l g1 H1 vs x1 S1 r1 o1 => hr l vs H1 _ Q r1 (o1.toV S1 (nx _))⟩
theorem de_callB {id : String} {n : Str} {es : List Expr} {r : List V → Hp → VK → Prop} {f : List D → Res D} {fs : MA} {p : Pos} (hc : CallR C.X (.builtin id) r) (hr : CallD C.g r f) (nx : ∀ x z, f x ≠ .err z) (hg : Gl C.X n) (hm : C.X.mg n = none) (hv : bootBuiltins n = some (.builtin id)) (ha : DA C (a :: es) fs)
    (h : PE C.X (.Call (.Name n p) (a :: es) [] pos) (tCB r (tDA C fs))) : DE C (.Call (.Name n p) (a :: es) [] pos) (eCall f fs) := pe_imp h (tD_call hr nx)
theorem de_ix {r : R2} {f : D → D → Res D} (hr : IxR C.X r) (hd : OpD C.g r f) (nx : ∀ x y z, f x y ≠ .err z) (ha : DE C a fa) (hb : DE C b fb) (hs : PlainIx b) : DE C (.Subscript a b pos) (eOp f fa fb) :=
  pe_imp (pe_ix hr ha hb hs) (tD_op hd nx)
end
end DL

set_option Elab.async false
set_option linter.all false
set_option maxRecDepth 100000
/-! DL3: the operators and built-ins on trees. -/
namespace DL
open PySem L2

/-! ### trees as the library's data -/
mutual
def D.py : D → PyData
  | .non => .none
  | .bl b => .bool b
  | .int i => .int i
  | .str x => .str x
  | .tup l => .tuple (D.pyL l)
  | .lst l => .list (D.pyL l)
  | .dic _ _ => .dict []
  | .ins _ _ _ => .dict []
def D.pyL : List D → List PyData
  | [] => []
  | d :: l => d.py :: D.pyL l
end
mutual
theorem rep_dp {g : G} {H : Hp} {A : Addr → Prop} : ∀ {d : D} {v : V}, d.py.canLay0 = true → Rep g H A d v → Dp g.K H v d.py
  | .non, v, _, h => by rw [Rep] at h; subst h; rw [D.py]; exact .non
  | .bl b, v, _, h => by rw [Rep] at h; subst h; rw [D.py]; exact .bl b
  | .int i, v, _, h => by rw [Rep] at h; subst h; rw [D.py]; exact .int i
  | .str i, v, _, h => by rw [Rep] at h; subst h; rw [D.py]; exact .str i
  | .tup l, v, c, h => by
    rw [Rep] at h; obtain ⟨a, vs, rfl, h1, h2⟩ := h
    rw [D.py, PyData.canLay0] at c
    rw [D.py]; exact .tup h1 (rep_dpL c h2)
  | .lst l, v, c, h => by
    rw [Rep] at h; obtain ⟨a, vs, rfl, h0, h1, h2⟩ := h
    rw [D.py, PyData.canLay0] at c
    rw [D.py]; exact .lst (SqL.of h1) (rep_dpL c h2)
  | .dic _ _, v, c, h => by rw [D.py, PyData.canLay0] at c; cases c
  | .ins _ _ _, v, c, h => by rw [D.py, PyData.canLay0] at c; cases c
theorem rep_dpL {g : G} {H : Hp} {A : Addr → Prop} : ∀ {l : List D} {vs : List V}, PyData.canLayAll0 (D.pyL l) = true → RepL g H A l vs → DpAll g.K H vs (D.pyL l)
  | [], vs, _, h => by rw [RepL] at h; subst h; rw [D.pyL]; exact .nil
  | d :: l, vs, c, h => by
    rw [RepL] at h; obtain ⟨v, r, rfl, h1, h2⟩ := h
    rw [D.pyL, PyData.canLayAll0, Bool.and_eq_true] at c
    rw [D.pyL]; exact .cons (rep_dp c.1 h1) (rep_dpL c.2 h2)
end
theorem dp_of {g : G} {H : Hp} {A : Addr → Prop} {d : D} {v : V} (s : SeqAt.shaped d.py = true) (h : Rep g H A d v) : Dp g.K H v d.py := rep_dp (SeqAt.canLay_of_shaped s) h

/-! ### operators -/
def dII (k : Int → Int → Res D) : D → D → Res D := fun x y => match x, y with
  | .int i, .int j => k i j
  | _, _ => .stuck
theorem opD_I0 {g : G} (k : Int → Int → V) (kd : Int → Int → D) (hk : ∀ i j H A, Rep g H A (kd i j) (k i j)) : OpD g (rI0 k) (dII fun i j => .ok (kd i j)) := fun x y v w H A Q rx ry o => by
  cases x <;> cases y <;> first | exact o.elim | skip
  exact ⟨_, _, rx.toInt, ry.toInt, OutV.now o (hk _ _ _ _)⟩
theorem opD_I {g : G} (c : Int → Int → Prop) [∀ i j, Decidable (c i j)] (k : Int → Int → V) (kd : Int → Int → D) (hk : ∀ i j H A, Rep g H A (kd i j) (k i j)) : OpD g (rI c k) (dII fun i j => if c i j then .ok (kd i j) else .stuck) := fun x y v w H A Q rx ry o => by
  cases x <;> cases y <;> first | exact o.elim | skip
  rename_i i j
  by_cases hc : c i j
  · have o' : OutV g H A (if c i j then .ok (kd i j) else .stuck) Q := o
    rw [if_pos hc] at o'
    exact ⟨_, _, rx.toInt, ry.toInt, hc, OutV.now o' (hk _ _ _ _)⟩
  · have o' : OutV g H A (if c i j then .ok (kd i j) else .stuck) Q := o
    rw [if_neg hc] at o'
    exact o'.elim
def dSub : D → D → Res D := dII fun i j => .ok (.int (i - j))
instance (i j : Int) : Decidable (CMulW i j) := inferInstanceAs (Decidable (_ < _))
instance (i j : Int) : Decidable (CDivW i j) := inferInstanceAs (Decidable (_ ∧ _))
instance (i j : Int) : Decidable (CPow i j) := inferInstanceAs (Decidable (_ ∧ _ ∧ _))
def dMulI : D → D → Res D := dII fun i j => if CMulW i j then .ok (.int (i * j)) else .stuck
def dFDiv : D → D → Res D := dII fun i j => if CDivW i j then .ok (.int (i / j)) else .stuck
def dMod : D → D → Res D := dII fun i j => if 0 < j then .ok (.int (i % j)) else .stuck
def dPow : D → D → Res D := dII fun i j => if CPow i j then .ok (.int (i ^ j.toNat)) else .stuck
def dLtI : D → D → Res D := dII fun i j => .ok (.bl (decide (i < j)))
def dLe : D → D → Res D := dII fun i j => .ok (.bl (decide (i ≤ j)))
def dGt : D → D → Res D := dII fun i j => .ok (.bl (decide (j < i)))
def dGe : D → D → Res D := dII fun i j => .ok (.bl (decide (j ≤ i)))
def dAdd : D → D → Res D := fun x y => match x, y with
  | .int i, .int j => .ok (.int (i + j))
  | .str i, .str j => if i.length + j.length ≤ 16777216 then .ok (.str (i ++ j)) else .stuck
  | .tup i, .tup j => if i.length + j.length ≤ 1000 then .ok (.tup (i ++ j)) else .stuck
  | .lst i, .lst j => if i.length + j.length ≤ 1000 then .ok (.lst (i ++ j)) else .stuck
  | _, _ => .stuck
def dMul : D → D → Res D := fun x y => match x, y with
  | .int i, .int j => if CMulW i j then .ok (.int (i * j)) else .stuck
  | .lst i, .int j => if 0 ≤ j ∧ j ≤ 1000 ∧ i.length * j.toNat ≤ 1000 then .ok (.lst (List.replicate j.toNat i).flatten) else .stuck
  | _, _ => .stuck
def dEq : D → D → Res D := fun x y => if SeqAt.shaped x.py = true ∧ SeqAt.shaped y.py = true then .ok (.bl (PyData.eqv x.py y.py)) else .stuck
def dNe : D → D → Res D := fun x y => if SeqAt.shaped x.py = true ∧ SeqAt.shaped y.py = true then .ok (.bl (!PyData.eqv x.py y.py)) else .stuck
def D.isNon : D → Bool
  | .non => true
  | _ => false
def dIsN : D → D → Res D := fun x y => match y with
  | .non => .ok (.bl x.isNon)
  | _ => .stuck
def dNotN : D → D → Res D := fun x y => match y with
  | .non => .ok (.bl (!x.isNon))
  | _ => .stuck
theorem rep_non_iff {g : G} {H : Hp} {A : Addr → Prop} {d : D} {v : V} (h : Rep g H A d v) : decide (v = .non) = d.isNon := by
  cases d with
  | non => rw [h.toNon]; rfl
  | bl b => rw [h.toBl]; rfl
  | int b => rw [h.toInt]; rfl
  | str b => rw [h.toStr]; rfl
  | tup b => obtain ⟨a, vs, rfl, _⟩ := h.toTup; rfl
  | lst b => obtain ⟨a, vs, rfl, _⟩ := h.toLst; rfl
  | dic k b => rw [Rep] at h; obtain ⟨a, vs, rfl, _⟩ := h; rfl
  | ins c n b => obtain ⟨a, _, _, vs, rfl, _⟩ := h.toIns; rfl
theorem repL_rep {g : G} {H : Hp} {A : Addr → Prop} {l : List D} {vs : List V} (h : RepL g H A l vs) : ∀ n : Nat, RepL g H A (List.replicate n l).flatten (List.replicate n vs).flatten
  | 0 => by simp; exact RepL.nil
  | n + 1 => by
    rw [List.replicate_succ, List.replicate_succ, List.flatten_cons, List.flatten_cons]
    exact h.append (repL_rep h n)
theorem RepL.empty_iff {g : G} {H : Hp} {A : Addr → Prop} {l : List D} {vs : List V} (h : RepL g H A l vs) : l = [] ↔ vs = [] := by
  have := h.length
  rw [← List.length_eq_zero_iff, ← List.length_eq_zero_iff, this]
section
variable {X : Cx} {g : G}
def rAddD (K : PySem.W.Frag) : R2 := fun x y H Q => rI0 (fun i j => .int (i + j)) x y H Q ∨ (∃ i j, x = .str i ∧ y = .str j ∧ i.length + j.length ≤ sizeLine ∧ Q (.str (i ++ j)) H) ∨ rCatA K x y H Q ∨ rCat x y H Q
theorem or_addD : OpR X (binaryOp .Add) (rAddD X.K) := op_add.or (op_add_str.or (op_catA.or op_cat))
theorem rep_cat_nil {g : G} {H : Hp} {A : Addr → Prop} {l : List D} {a : Addr} {vs : List V} (h : SqT g.K H a vs) (r : RepL g H A l vs) : Rep g H A (.tup (l ++ [])) (.ref a) := by
  rw [List.append_nil]; exact .tup_ h r
theorem opD_add : OpD g (rAddD g.K) dAdd := fun x y v w H A Q rx ry o => by
  cases x <;> cases y <;> first | exact o.elim | skip
  · exact .inl ⟨_, _, rx.toInt, ry.toInt, OutV.int o⟩
  · rename_i i j
    have o' : OutV g H A (if i.length + j.length ≤ 16777216 then .ok (.str (i ++ j)) else .stuck) Q := o
    by_cases hl : i.length + j.length ≤ 16777216
    · rw [if_pos hl] at o'
      exact .inr (.inl ⟨_, _, rx.toStr, ry.toStr, hl, OutV.str o'⟩)
    · rw [if_neg hl] at o'; exact o'.elim
  · rename_i i j
    obtain ⟨a, vs, rfl, h1, h2⟩ := rx.toTup
    obtain ⟨b, ws, rfl, h3, h4⟩ := ry.toTup
    have o' : OutV g H A (if i.length + j.length ≤ 1000 then .ok (.tup (i ++ j)) else .stuck) Q := o
    by_cases hl : i.length + j.length ≤ 1000
    · rw [if_pos hl] at o'
      refine .inr (.inr (.inl ⟨a, b, vs, ws, rfl, rfl, h1, h3, by rw [← h2.length, ← h4.length]; exact le_line hl, fun e => ?_, fun _ e => ?_, fun _ _ p hp => o'.newT hp (h2.append h4)⟩))
      · have ei := h2.empty_iff.mpr e
        subst ei
        exact o'.now (.tup_ h3 h4)
      · have ej := h4.empty_iff.mpr e
        subst ej
        exact o'.now (rep_cat_nil h1 h2)
    · rw [if_neg hl] at o'; exact o'.elim
  · rename_i i j
    obtain ⟨a, vs, rfl, h0, h1, h2⟩ := rx.toLst
    obtain ⟨b, ws, rfl, h3, h4, h5⟩ := ry.toLst
    have o' : OutV g H A (if i.length + j.length ≤ 1000 then .ok (.lst (i ++ j)) else .stuck) Q := o
    by_cases hl : i.length + j.length ≤ 1000
    · rw [if_pos hl] at o'
      exact .inr (.inr (.inr ⟨a, b, vs, ws, rfl, rfl, h1, h4, by rw [← h2.length, ← h5.length]; exact le_line hl, fun p hp => o'.newL hp (h2.append h5)⟩))
    · rw [if_neg hl] at o'; exact o'.elim
def rMulD : R2 := fun x y H Q => rI CMulW (fun i j => .int (i * j)) x y H Q ∨ rRep x y H Q
theorem or_mulD : OpR X (binaryOp .Mult) rMulD := op_mulW.or op_rep
theorem opD_mul : OpD g rMulD dMul := fun x y v w H A Q rx ry o => by
  cases x <;> cases y <;> first | exact o.elim | skip
  · rename_i i j
    have o' : OutV g H A (if CMulW i j then .ok (.int (i * j)) else .stuck) Q := o
    by_cases hl : CMulW i j
    · rw [if_pos hl] at o'
      exact .inl ⟨_, _, rx.toInt, ry.toInt, hl, OutV.int o'⟩
    · rw [if_neg hl] at o'; exact o'.elim
  · rename_i i j
    obtain ⟨a, vs, rfl, h0, h1, h2⟩ := rx.toLst
    have o' : OutV g H A (if 0 ≤ j ∧ j ≤ 1000 ∧ i.length * j.toNat ≤ 1000 then .ok (.lst (List.replicate j.toNat i).flatten) else .stuck) Q := o
    by_cases hl : 0 ≤ j ∧ j ≤ 1000 ∧ i.length * j.toNat ≤ 1000
    · rw [if_pos hl] at o'
      exact .inr ⟨a, j, vs, rfl, ry.toInt, h1, by omega, by omega, by rw [← h2.length]; exact le_line hl.2.2, fun p hp => o'.newL hp (repL_rep h2 _)⟩
    · rw [if_neg hl] at o'; exact o'.elim
theorem opD_sub : OpD g (rI0 fun i j => .int (i - j)) dSub := opD_I0 _ (fun i j => .int (i - j)) fun _ _ _ _ => .int_ _
theorem opD_fdiv : OpD g (rI CDivW fun i j => .int (i / j)) dFDiv := opD_I _ _ (fun i j => .int (i / j)) fun _ _ _ _ => .int_ _
theorem opD_mod : OpD g (rI (fun _ j => 0 < j) fun i j => .int (i % j)) dMod := opD_I (fun _ j => 0 < j) _ (fun i j => .int (i % j)) fun _ _ _ _ => .int_ _
theorem opD_pow : OpD g (rI CPow fun i j => .int (i ^ j.toNat)) dPow := opD_I _ _ (fun i j => .int (i ^ j.toNat)) fun _ _ _ _ => .int_ _
theorem opD_lt : OpD g (rI0 fun i j => .bl (decide (i < j))) dLtI := opD_I0 _ (fun i j => .bl (decide (i < j))) fun _ _ _ _ => .bl_ _
theorem opD_le : OpD g (rI0 fun i j => .bl (decide (i ≤ j))) dLe := opD_I0 _ (fun i j => .bl (decide (i ≤ j))) fun _ _ _ _ => .bl_ _
theorem opD_gt : OpD g (rI0 fun i j => .bl (decide (j < i))) dGt := opD_I0 _ (fun i j => .bl (decide (j < i))) fun _ _ _ _ => .bl_ _
theorem opD_ge : OpD g (rI0 fun i j => .bl (decide (j ≤ i))) dGe := opD_I0 _ (fun i j => .bl (decide (j ≤ i))) fun _ _ _ _ => .bl_ _
theorem opD_eq : OpD g (rEqD g.K) dEq := fun x y v w H A Q rx ry o => by
  unfold dEq at o
  by_cases h : SeqAt.shaped x.py = true ∧ SeqAt.shaped y.py = true
  · rw [if_pos h] at o
    exact ⟨_, _, dp_of h.1 rx, dp_of h.2 ry, h.1, h.2, OutV.bl o⟩
  · rw [if_neg h] at o; exact o.elim
theorem opD_ne : OpD g (rNeD g.K) dNe := fun x y v w H A Q rx ry o => by
  unfold dNe at o
  by_cases h : SeqAt.shaped x.py = true ∧ SeqAt.shaped y.py = true
  · rw [if_pos h] at o
    exact ⟨_, _, dp_of h.1 rx, dp_of h.2 ry, h.1, h.2, OutV.bl o⟩
  · rw [if_neg h] at o; exact o.elim
theorem opD_isN : OpD g (fun x y H Q => y = .non ∧ Q (.bl (decide (x = .non))) H) dIsN := fun x y v w H A Q rx ry o => by
  cases y <;> first | exact o.elim | skip
  refine ⟨ry.toNon, ?_⟩
  rw [rep_non_iff rx]
  exact OutV.bl o
theorem opD_notN : OpD g (fun x y H Q => y = .non ∧ Q (.bl (!decide (x = .non))) H) dNotN := fun x y v w H A Q rx ry o => by
  cases y <;> first | exact o.elim | skip
  refine ⟨ry.toNon, ?_⟩
  rw [rep_non_iff rx]
  exact OutV.bl o
/-! in: a list of data, a flat tuple, a text -/
def D.isFlat : D → Bool
  | .non | .bl _ | .int _ | .str _ => true
  | _ => false
def dMem (x : D) (l : List D) : Bool := l.any fun z => PyData.eqv z.py x.py
def hasSub (j i : Str) : Bool := !(Builtin.Str.occurrences j i 0 j.length 1).isEmpty
def dInB (x y : D) : Option Bool := match y with
  | .lst l => if SeqAt.shaped x.py = true ∧ SeqAt.shaped (D.lst l).py = true then some (dMem x l) else none
  | .tup l => if x.isFlat = true ∧ l.all D.isFlat = true then some (dMem x l) else none
  | .str j => match x with
    | .str i => some (hasSub j i)
    | _ => none
  | .dic ks _ => match x with
    | .int i => some (ks.any fun k => decide (k = Sum.inl i))
    | .str s => some (ks.any fun k => decide (k = Sum.inr s))
    | _ => none
  | _ => none
def dIn (x y : D) : Res D := match dInB x y with
  | some b => .ok (.bl b)
  | none => .stuck
def dNotIn (x y : D) : Res D := match dInB x y with
  | some b => .ok (.bl (!b))
  | none => .stuck
theorem pyL_any (p : PyData → Bool) : ∀ l : List D, (D.pyL l).any p = l.any fun z => p z.py
  | [] => by rw [D.pyL]; rfl
  | d :: l => by rw [D.pyL, List.any_cons, List.any_cons, pyL_any p l]
theorem flat_rep {H : Hp} {A : Addr → Prop} {d : D} {v : V} (f : d.isFlat = true) (h : Rep g H A d v) : flatV v = true := by
  cases d <;> first | cases f | skip
  · rw [h.toNon]; rfl
  · rw [h.toBl]; rfl
  · rw [h.toInt]; rfl
  · rw [h.toStr]; rfl
theorem flat_repL {H : Hp} {A : Addr → Prop} : ∀ {l : List D} {vs : List V}, l.all D.isFlat = true → RepL g H A l vs → vs.all flatV = true
  | [], vs, _, h => by rw [h.toNil]; rfl
  | d :: l, vs, f, h => by
    obtain ⟨v, r, rfl, h1, h2⟩ := h.toCons
    rw [List.all_cons, Bool.and_eq_true] at f ⊢
    exact ⟨flat_rep f.1 h1, flat_repL f.2 h2⟩
theorem eqV_rep {H : Hp} {A : Addr → Prop} {d e : D} {v w : V} (f : d.isFlat = true) (f' : e.isFlat = true) (h : Rep g H A d v) (h' : Rep g H A e w) : eqV v w = PyData.eqv d.py e.py := by
  cases d <;> first | cases f | skip
  all_goals cases e <;> first | cases f' | skip
  all_goals first | rw [h.toNon] | rw [h.toBl] | rw [h.toInt] | rw [h.toStr]
  all_goals first | rw [h'.toNon] | rw [h'.toBl] | rw [h'.toInt] | rw [h'.toStr]
  all_goals simp only [D.py, PyData.eqv, eqV]
theorem inV_rep {H : Hp} {A : Addr → Prop} {x : D} {w : V} (f' : x.isFlat = true) (h' : Rep g H A x w) : ∀ {l : List D} {vs : List V}, l.all D.isFlat = true → RepL g H A l vs → inV w vs = dMem x l
  | [], vs, _, h => by rw [h.toNil]; rfl
  | d :: l, vs, f, h => by
    obtain ⟨v, r, rfl, h1, h2⟩ := h.toCons
    rw [List.all_cons, Bool.and_eq_true] at f
    unfold inV dMem
    rw [List.any_cons, List.any_cons, eqV_rep f.1 f' h1 h']
    have := inV_rep f' h' f.2 h2
    unfold inV dMem at this
    rw [this]
def rInA (K : PySem.W.Frag) : R2 := fun x y H Q => rInD K x y H Q ∨ rIn K false x y H Q ∨ ∃ i j, x = .str i ∧ y = .str j ∧ Q (.bl (!(Builtin.Str.occurrences j i 0 j.length 1).isEmpty)) H
def rNotInA (K : PySem.W.Frag) : R2 := fun x y H Q => rNotInD K x y H Q ∨ rIn K true x y H Q ∨ ∃ i j, x = .str i ∧ y = .str j ∧ Q (.bl (!(!(Builtin.Str.occurrences j i 0 j.length 1).isEmpty))) H
theorem or_inA (hu : X.A.units + 65 < cLine) : OpR X (compareOp .In) (rInA X.K) := (op_inD hu).or (op_in_seq.or op_in_str)
theorem or_notInA (hu : X.A.units + 65 < cLine) : OpR X (compareOp .NotIn) (rNotInA X.K) := (op_notInD hu).or (op_notIn_seq.or op_notIn_str)
/-- in but for dicts -/
def dInS (x y : D) : Res D := match y with
  | .dic _ _ => .stuck
  | _ => dIn x y
def dNotInS (x y : D) : Res D := match y with
  | .dic _ _ => .stuck
  | _ => dNotIn x y
theorem opD_in : OpD g (rInA g.K) dInS := fun x y v w H A Q rx ry o => by
  cases y <;> first | exact o.elim | skip
  · rename_i j
    cases x <;> first | exact o.elim | skip
    exact .inr (.inr ⟨_, _, rx.toStr, ry.toStr, OutV.bl o⟩)
  · rename_i l
    have o' : OutV g H A (dIn x (.tup l)) Q := o
    unfold dIn dInB at o'
    by_cases h : x.isFlat = true ∧ l.all D.isFlat = true
    · simp only [h, and_self, if_true] at o'
      obtain ⟨a, vs, rfl, h1, h2⟩ := ry.toTup
      refine .inr (.inl ⟨a, vs, rfl, .inr h1, flat_rep h.1 rx, flat_repL h.2 h2, ?_⟩)
      rw [inV_rep h.1 rx h.2 h2]
      exact OutV.bl o'
    · simp only [h, if_false] at o'; exact o'.elim
  · rename_i l
    have o' : OutV g H A (dIn x (.lst l)) Q := o
    unfold dIn dInB at o'
    by_cases h : SeqAt.shaped x.py = true ∧ SeqAt.shaped (D.lst l).py = true
    · simp only [h, and_self, if_true] at o'
      have d2 := dp_of h.2 ry
      have s2 := h.2
      rw [D.py] at d2 s2
      refine .inl ⟨_, _, dp_of h.1 rx, d2, h.1, s2, ?_⟩
      rw [pyL_any]
      exact OutV.bl o'
    · simp only [h, if_false] at o'; exact o'.elim
theorem opD_notIn : OpD g (rNotInA g.K) dNotInS := fun x y v w H A Q rx ry o => by
  cases y <;> first | exact o.elim | skip
  · rename_i j
    cases x <;> first | exact o.elim | skip
    exact .inr (.inr ⟨_, _, rx.toStr, ry.toStr, OutV.bl o⟩)
  · rename_i l
    have o' : OutV g H A (dNotIn x (.tup l)) Q := o
    unfold dNotIn dInB at o'
    by_cases h : x.isFlat = true ∧ l.all D.isFlat = true
    · simp only [h, and_self, if_true] at o'
      obtain ⟨a, vs, rfl, h1, h2⟩ := ry.toTup
      refine .inr (.inl ⟨a, vs, rfl, .inr h1, flat_rep h.1 rx, flat_repL h.2 h2, ?_⟩)
      rw [inV_rep h.1 rx h.2 h2]
      exact OutV.bl o'
    · simp only [h, if_false] at o'; exact o'.elim
  · rename_i l
    have o' : OutV g H A (dNotIn x (.lst l)) Q := o
    unfold dNotIn dInB at o'
    by_cases h : SeqAt.shaped x.py = true ∧ SeqAt.shaped (D.lst l).py = true
    · simp only [h, and_self, if_true] at o'
      have d2 := dp_of h.2 ry
      have s2 := h.2
      rw [D.py] at d2 s2
      refine .inl ⟨_, _, dp_of h.1 rx, d2, h.1, s2, ?_⟩
      rw [pyL_any]
      exact OutV.bl o'
    · simp only [h, if_false] at o'; exact o'.elim
end
def dNeg : D → Res D
  | .int i => .ok (.int (-i))
  | _ => .stuck
theorem unD_neg {g : G} : UnD g (rU fun i => .int (-i)) dNeg := fun x v H A Q rx o => by
  cases x <;> first | exact o.elim | skip
  exact ⟨_, rx.toInt, OutV.int o⟩

/-! ### subscripts -/
def dIx : D → D → Res D := fun x y => match x, y with
  | .lst l, .int i => match atI l i with | some d => .ok d | none => .stuck
  | .tup l, .int i => match atI l i with | some d => .ok d | none => .stuck
  | .str z, .int i => match atI z.cps.toList i with | some c => if z.length ≤ 16777216 then .ok (.str ⟨#[c]⟩) else .stuck | none => .stuck
  | _, _ => .stuck
theorem atI_rep {g : G} {H : Hp} {A : Addr → Prop} {l : List D} {vs : List V} {i : Int} {d : D} (h : RepL g H A l vs) (e : atI l i = some d) : ∃ v, atI vs i = some v ∧ Rep g H A d v := by
  unfold atI at e ⊢
  rw [← h.length]
  cases hx : ixN l.length i with
  | none => rw [hx] at e; cases e
  | some j =>
    rw [hx] at e
    exact h.get e
theorem opD_ix {g : G} : OpD g (rIx g.K) dIx := fun x y v w H A Q rx ry o => by
  cases x <;> cases y <;> first | exact o.elim | skip
  · rename_i z i
    have o' : OutV g H A (match atI z.cps.toList i with | some c => if z.length ≤ 16777216 then .ok (.str ⟨#[c]⟩) else .stuck | none => .stuck) Q := o
    cases e : atI z.cps.toList i with
    | none => rw [e] at o'; exact o'.elim
    | some c =>
      rw [e] at o'
      by_cases hl : z.length ≤ 16777216
      · simp only [hl, if_true] at o'
        exact .inr (.inr ⟨z, i, c, rx.toStr, ry.toInt, hl, e, OutV.str o'⟩)
      · simp only [hl, if_false] at o'; exact o'.elim
  · rename_i l i
    have o' : OutV g H A (match atI l i with | some d => .ok d | none => .stuck) Q := o
    obtain ⟨a, vs, rfl, h1, h2⟩ := rx.toTup
    cases e : atI l i with
    | none => rw [e] at o'; exact o'.elim
    | some d =>
      rw [e] at o'
      obtain ⟨u, e1, e2⟩ := atI_rep h2 e
      exact .inr (.inl ⟨a, vs, i, u, rfl, ry.toInt, h1, e1, o'.now e2⟩)
  · rename_i l i
    have o' : OutV g H A (match atI l i with | some d => .ok d | none => .stuck) Q := o
    obtain ⟨a, vs, rfl, h0, h1, h2⟩ := rx.toLst
    cases e : atI l i with
    | none => rw [e] at o'; exact o'.elim
    | some d =>
      rw [e] at o'
      obtain ⟨u, e1, e2⟩ := atI_rep h2 e
      exact .inl ⟨a, vs, i, u, rfl, ry.toInt, SqL.of h1, e1, o'.now e2⟩

/-! ### built-ins -/
def dAbs : List D → Res D
  | [.int i] => .ok (.int (if i < 0 then -i else i))
  | _ => .stuck
theorem one_of {g : G} {H : Hp} {A : Addr → Prop} {d : D} {vs : List V} (h : RepL g H A [d] vs) : ∃ v, vs = [v] ∧ Rep g H A d v := by
  obtain ⟨v, r, rfl, h1, h2⟩ := h.toCons
  rw [h2.toNil]; exact ⟨v, rfl, h1⟩
theorem two_of {g : G} {H : Hp} {A : Addr → Prop} {d e : D} {vs : List V} (h : RepL g H A [d, e] vs) : ∃ v w, vs = [v, w] ∧ Rep g H A d v ∧ Rep g H A e w := by
  obtain ⟨v, r, rfl, h1, h2⟩ := h.toCons
  obtain ⟨w, rfl, h3⟩ := one_of h2
  exact ⟨v, w, rfl, h1, h3⟩
theorem callD_abs {g : G} : CallD g (fun xs H Q => ∃ i, xs = [.int i] ∧ Q (.int (if i < 0 then -i else i)) H) dAbs := fun xs vs H A Q r o => by
  cases xs with
  | nil => exact o.elim
  | cons d l =>
    cases l with
    | cons => cases d <;> exact o.elim
    | nil =>
      obtain ⟨v, rfl, h⟩ := one_of r
      cases d <;> first | exact o.elim | skip
      rw [h.toInt]; exact ⟨_, rfl, OutV.int o⟩
def dLen : List D → Res D
  | [.lst l] => .ok (.int l.length)
  | [.tup l] => .ok (.int l.length)
  | [.str z] => if z.length ≤ 16777216 then .ok (.int z.length) else .stuck
  | _ => .stuck
theorem callD_len {g : G} : CallD g (fun xs H Q => ∃ x n, xs = [x] ∧ LenV g.K x H n ∧ Q (.int n) H) dLen := fun xs vs H A Q r o => by
  cases xs with
  | nil => exact o.elim
  | cons d l =>
    cases l with
    | cons => cases d <;> exact o.elim
    | nil =>
      obtain ⟨v, rfl, h⟩ := one_of r
      cases d <;> first | exact o.elim | skip
      · rename_i z
        have o' : OutV g H A (if z.length ≤ 16777216 then .ok (.int z.length) else .stuck) Q := o
        by_cases hl : z.length ≤ 16777216
        · rw [if_pos hl] at o'
          rw [h.toStr]
          exact ⟨_, z.length, rfl, ⟨hl, rfl⟩, OutV.int o'⟩
        · rw [if_neg hl] at o'; exact o'.elim
      · rename_i l
        obtain ⟨a, ws, rfl, h1, h2⟩ := h.toTup
        exact ⟨_, l.length, rfl, .inr ⟨ws, h1, h2.length⟩, OutV.int o⟩
      · rename_i l
        obtain ⟨a, ws, rfl, h0, h1, h2⟩ := h.toLst
        exact ⟨_, l.length, rfl, .inl ⟨ws, SqL.of h1, h2.length⟩, OutV.int o⟩
/-- all, any of a list of bools -/
def bools : List D → Option (List Bool)
  | [] => some []
  | .bl b :: l => (bools l).map (b :: ·)
  | _ => none
def intsD : List D → Option (List Int)
  | [] => some []
  | .int b :: l => (intsD l).map (b :: ·)
  | _ => none
theorem bools_rep {g : G} {H : Hp} {A : Addr → Prop} : ∀ {l : List D} {bs : List Bool} {vs : List V}, bools l = some bs → RepL g H A l vs → vs = bs.map V.bl
  | [], bs, vs, e, h => by rw [bools] at e; cases e; exact h.toNil
  | d :: l, bs, vs, e, h => by
    cases d <;> first | (rw [bools] at e; cases e; done) | (simp [bools] at e; done) | skip
    rename_i b
    obtain ⟨v, r, rfl, h1, h2⟩ := h.toCons
    rw [bools] at e
    cases eb : bools l with
    | none => rw [eb] at e; cases e
    | some bs' =>
      rw [eb] at e; cases e
      rw [h1.toBl, bools_rep eb h2]; rfl
theorem ints_rep {g : G} {H : Hp} {A : Addr → Prop} : ∀ {l : List D} {bs : List Int} {vs : List V}, intsD l = some bs → RepL g H A l vs → vs = bs.map V.int
  | [], bs, vs, e, h => by rw [intsD] at e; cases e; exact h.toNil
  | d :: l, bs, vs, e, h => by
    cases d <;> first | (rw [intsD] at e; cases e; done) | (simp [intsD] at e; done) | skip
    rename_i b
    obtain ⟨v, r, rfl, h1, h2⟩ := h.toCons
    rw [intsD] at e
    cases eb : intsD l with
    | none => rw [eb] at e; cases e
    | some bs' =>
      rw [eb] at e; cases e
      rw [h1.toInt, ints_rep eb h2]; rfl
def dAll : List D → Res D
  | [.lst l] => match bools l with | some bs => .ok (.bl (bs.all id)) | none => .stuck
  | _ => .stuck
def dAny : List D → Res D
  | [.lst l] => match bools l with | some bs => .ok (.bl (bs.any id)) | none => .stuck
  | _ => .stuck
def dSum : List D → Res D
  | [.lst l] => match intsD l with | some bs => .ok (.int bs.sum) | none => .stuck
  | _ => .stuck
theorem callD_all {g : G} : CallD g (rAll g.K) dAll := fun xs vs H A Q r o => by
  cases xs with
  | nil => exact o.elim
  | cons d l =>
    cases l with
    | cons => cases d <;> exact o.elim
    | nil =>
      obtain ⟨v, rfl, h⟩ := one_of r
      cases d <;> first | exact o.elim | skip
      rename_i l
      obtain ⟨a, ws, rfl, h0, h1, h2⟩ := h.toLst
      have o' : OutV g H A (match bools l with | some bs => .ok (.bl (bs.all id)) | none => .stuck) Q := o
      cases e : bools l with
      | none => rw [e] at o'; exact o'.elim
      | some bs =>
        rw [e] at o'
        exact ⟨a, bs, rfl, by rw [← bools_rep e h2]; exact SqL.of h1, OutV.bl o'⟩
theorem callD_any {g : G} : CallD g (rAny g.K) dAny := fun xs vs H A Q r o => by
  cases xs with
  | nil => exact o.elim
  | cons d l =>
    cases l with
    | cons => cases d <;> exact o.elim
    | nil =>
      obtain ⟨v, rfl, h⟩ := one_of r
      cases d <;> first | exact o.elim | skip
      rename_i l
      obtain ⟨a, ws, rfl, h0, h1, h2⟩ := h.toLst
      have o' : OutV g H A (match bools l with | some bs => .ok (.bl (bs.any id)) | none => .stuck) Q := o
      cases e : bools l with
      | none => rw [e] at o'; exact o'.elim
      | some bs =>
        rw [e] at o'
        exact ⟨a, bs, rfl, by rw [← bools_rep e h2]; exact SqL.of h1, OutV.bl o'⟩
theorem callD_sum {g : G} : CallD g (rSum g.K) dSum := fun xs vs H A Q r o => by
  cases xs with
  | nil => exact o.elim
  | cons d l =>
    cases l with
    | cons => cases d <;> exact o.elim
    | nil =>
      obtain ⟨v, rfl, h⟩ := one_of r
      cases d <;> first | exact o.elim | skip
      rename_i l
      obtain ⟨a, ws, rfl, h0, h1, h2⟩ := h.toLst
      have o' : OutV g H A (match intsD l with | some bs => .ok (.int bs.sum) | none => .stuck) Q := o
      cases e : intsD l with
      | none => rw [e] at o'; exact o'.elim
      | some bs =>
        rw [e] at o'
        exact ⟨a, bs, rfl, by rw [← ints_rep e h2]; exact SqL.of h1, OutV.int o'⟩
/-- isinstance(x, T) for a built-in T -/
inductive Ty where | tInt | tBool | tStr | tTup | tList
  deriving DecidableEq
def Ty.nm : Ty → String
  | .tInt => "int" | .tBool => "bool" | .tStr => "str" | .tTup => "tuple" | .tList => "list"
def dIsi (t : Ty) : D → Bool
  | .non => false
  | .bl _ => t = .tInt || t = .tBool
  | .int _ => t = .tInt
  | .str _ => t = .tStr
  | .tup _ => t = .tTup
  | .lst _ => t = .tList
  | .dic _ _ => false
  | .ins _ _ _ => false
def dIsinst (t : Ty) : List D → Res D
  | [.ins _ _ _] => .stuck
  | [.dic _ _] => .stuck
  | [d] => .ok (.bl (dIsi t d))
  | _ => .stuck
end DL

set_option Elab.async false
set_option linter.all false
set_option maxRecDepth 100000
/-! DL4: new lists, borrowing, calls of defs, statements. -/
namespace DL
open PySem L2

/-! ### new lists -/
def OutF (C : Ctx) (own : Own) (F : Hp) (σ : L2.St) (e : En) (H : Hp) (r : Res (List D × Rng)) (Q : VK) : Prop :=
  match r with
  | .ok (l, g') => ∀ H' p vs, ExtI C H H' → H p = none → H' p = some (.lst vs) → SR C own F H' σ e g' → RepL C.g H' (fun a => C.Al own a ∧ a ≠ p) l vs → Q (.ref p) H'
  | .err x => ∀ H' c dd, ExtI C H H' → (∃ g', SR C own F H' σ e g') → RepX C.g H' (C.Al own) x c dd → C.W c dd σ H'
  | .stuck => False
def tDF (C : Ctx) (f : MA) : TE := fun σ H Q => ∃ own F e g, SR C own F H σ e g ∧ OutF C own F σ e H (f e g) Q
def DF (C : Ctx) (x : Expr) (f : MA) : Prop := PE C.X x (tDF C f)
def eOfL (f : MA) : ME := fun e g => (f e g).bind fun p => .ok (.lst p.1, p.2)
section
variable {C : Ctx} {x a b : Expr} {fa fb : ME} {pos : Pos}
theorem de_ofF {f : MA} (h : DF C x f) : DE C x (eOfL f) := pe_imp h fun σ H Q ⟨own, F, e, g, S, o⟩ => ⟨own, F, e, g, S, by
  unfold eOfL at o
  cases hf : f e g with
  | ok a =>
    obtain ⟨l, g'⟩ := a
    rw [hf] at o
    exact fun H' p vs x n hp S' r => o H' _ x S' (.lst_ (S.fresh n) hp (r.mono (.same fun _ _ z => z) fun a q _ => q.1))
  | err y => rw [hf] at o; exact o
  | stuck => rw [hf] at o; exact o.elim⟩
def aLst (a : MA) : MA := fun e g => (a e g).bind fun p => if p.1.length ≤ 1000 then .ok p else .stuck
theorem OutF.bindA {own : Own} {F H : Hp} {σ : L2.St} {e : En} {r : Res (List D × Rng)} {k : List D × Rng → Res (List D × Rng)} {Q : VK} {Q1 : List V → Hp → Prop} (h : OutF C own F σ e H (r.bind k) Q)
    (hq : ∀ d g1 H1 v, ExtI C H H1 → SR C own F H1 σ e g1 → RepL C.g H1 (C.Al own) d v → OutF C own F σ e H1 (k (d, g1)) Q → Q1 v H1) : OutA C own F σ e H r Q1 := by
  cases r with
  | ok a =>
    obtain ⟨d, g1⟩ := a
    intro H1 v x S r1
    refine hq d g1 H1 v x S r1 ?_
    have h' : OutF C own F σ e H (k (d, g1)) Q := h
    have fb : ∀ {p}, H1 p = none → ¬ C.io p → H p = none := fun {p} n ni => by
      cases q : H p with
      | none => rfl
      | some o => rw [x p o q ni] at n; cases n
    cases hk : k (d, g1) with
    | ok a =>
      rw [hk] at h'
      exact fun H2 p vs x2 n hp S2 rr => h' H2 p vs (x.trans x2) (fb n (fun hi => by obtain ⟨xs, z, _⟩ := S.io p hi; rw [n] at z; cases z)) hp S2 rr
    | err y =>
      rw [hk] at h'
      exact fun H2 c dd x2 => h' H2 c dd (x.trans x2)
    | stuck => rw [hk] at h'; exact h'
  | err y => exact h
  | stuck => exact h
theorem OutF.bindE {own : Own} {F H : Hp} {σ : L2.St} {e : En} {r : Res (D × Rng)} {k : D × Rng → Res (List D × Rng)} {Q : VK} {Q1 : VK} (h : OutF C own F σ e H (r.bind k) Q)
    (hq : ∀ d g1 H1 v, ExtI C H H1 → SR C own F H1 σ e g1 → Rep C.g H1 (C.Al own) d v → OutF C own F σ e H1 (k (d, g1)) Q → Q1 v H1) : OutE C own F σ e H r Q1 := by
  cases r with
  | ok a =>
    obtain ⟨d, g1⟩ := a
    intro H1 v x S r1
    refine hq d g1 H1 v x S r1 ?_
    have h' : OutF C own F σ e H (k (d, g1)) Q := h
    have fb : ∀ {p}, H1 p = none → ¬ C.io p → H p = none := fun {p} n ni => by
      cases q : H p with
      | none => rfl
      | some o => rw [x p o q ni] at n; cases n
    cases hk : k (d, g1) with
    | ok a =>
      rw [hk] at h'
      exact fun H2 p vs x2 n hp S2 rr => h' H2 p vs (x.trans x2) (fb n (fun hi => by obtain ⟨xs, z, _⟩ := S.io p hi; rw [n] at z; cases z)) hp S2 rr
    | err y =>
      rw [hk] at h'
      exact fun H2 c dd x2 => h' H2 c dd (x.trans x2)
    | stuck => rw [hk] at h'; exact h'
  | err y => exact h
  | stuck => exact h
/-- a new list is laid now -/
theorem OutF.newL {own : Own} {F H : Hp} {σ : L2.St} {e : En} {g : Rng} {l : List D} {vs : List V} {p : Addr} {Q : VK} (S : SR C own F H σ e g) (h : OutF C own F σ e H (.ok (l, g)) Q) (n : H p = none) (r : RepL C.g H (C.Al own) l vs) : Q (.ref p) (upd H p (.lst vs)) := by
  have s : Same H (upd H p (.lst vs)) := fun a o e => by rw [upd_ne (ne_of_none e n)]; exact e
  exact h _ p vs (.of s) n upd_same (S.same s) (r.mono (.same s) fun a q ⟨o, z⟩ => ⟨q, ne_of_none z n⟩)
theorem df_lst {es : List Expr} {fs : MA} (h : ∀ {t : TA}, PA C.X es t → PE C.X x (tLst t)) (ha : DA C es fs) : DF C x (aLst fs) :=
  pe_imp (h ha) fun σ H Q ⟨own, F, e, g, S, o⟩ => ⟨own, F, e, g, S, OutF.bindA o fun l g1 H1 vs x1 S1 r1 o1 => by
    by_cases hl : l.length ≤ 1000
    · simp only [hl, if_true] at o1
      exact ⟨by rw [← r1.length]; exact le_line hl, fun p hp => o1.newL S1 hp r1⟩
    · simp only [hl, if_false] at o1
      exact o1.elim⟩

/-! ### borrowing -/
def borrow (B : List Nat) (e : En) : En := e.mapIdx fun i s => match s with
  | .ow l => if i ∈ B then .sh (.lst l) else .ow l
  | s => s
def offB (B : List Nat) (own : Own) : Own := fun j => if j ∈ B then none else own j
theorem Al_off {own : Own} {B : List Nat} {a : Addr} (h : C.Al own a) : C.Al (offB B own) a := ⟨h.1, fun j hj => by
  unfold offB at hj
  split at hj
  · cases hj
  · exact h.2.1 j hj, h.2.2⟩
theorem SR.borrow {own : Own} {F H : Hp} {σ : L2.St} {e : En} {g : Rng} (B : List Nat) (S : SR C own F H σ e g) : SR C (offB B own) F H σ (borrow B e) g where
  len := by unfold DL.borrow; rw [List.length_mapIdx]; exact S.len
  sl := fun i s hs => by
    unfold DL.borrow at hs
    rw [List.getElem?_mapIdx] at hs
    cases q : e[i]? with
    | none => rw [q] at hs; cases hs
    | some s0 =>
      rw [q] at hs
      have z := S.sl i s0 q
      have up : ∀ {l : List D} {vs : List V}, RepL C.g H (C.Al own) l vs → RepL C.g H (C.Al (offB B own)) l vs := fun r => r.mono (.same fun _ _ z => z) fun a q _ => Al_off q
      cases s0 with
      | un => cases hs; trivial
      | ex y => cases hs; exact ExR.mono z (.same fun _ _ z => z) (fun _ _ q => q) fun a q _ => Al_off q
      | sh d =>
        cases hs
        obtain ⟨v, e1, e2⟩ := z
        exact ⟨v, e1, e2.mono (.same fun _ _ z => z) fun a q _ => Al_off q⟩
      | ow l =>
        obtain ⟨p, vs, e1, e2, e3, e4⟩ := z
        by_cases hb : i ∈ B
        · simp only [Option.map_some, hb, if_true] at hs
          cases hs
          refine ⟨.ref p, e2, .lst_ ⟨.inr (S.on i p e1).2.1, fun j hj => ?_, (S.on i p e1).2.2⟩ e3 (up e4)⟩
          unfold offB at hj
          split at hj
          · cases hj
          · rename_i hn
            rw [S.inj j i p hj e1] at hn
            exact hn hb
        · simp only [Option.map_some, hb, if_false] at hs
          cases hs
          exact ⟨p, vs, by unfold offB; rw [if_neg hb]; exact e1, e2, e3, up e4⟩
      | rng => cases hs; exact z
      | me => cases hs; exact z
  on := fun i p h => by
    unfold offB at h
    split at h
    · cases h
    · exact S.on i p h
  ph := fun i p h hi => by
    unfold DL.borrow at hi ⊢
    rw [List.length_mapIdx] at hi
    unfold offB at h
    split at h
    · cases h
    · rename_i hb
      obtain ⟨l, hl⟩ := S.ph i p h hi
      exact ⟨l, by rw [List.getElem?_mapIdx, hl]; simp [hb]⟩
  inj := fun i j p h h' => by
    unfold offB at h h'
    split at h
    · cases h
    · split at h'
      · cases h'
      · exact S.inj i j p h h'
  fin := by
    obtain ⟨n, hn⟩ := S.fin
    exact ⟨n, fun j hj => by unfold offB; split; rfl; exact hn j hj⟩
  h0 := S.h0
  fr := fun a o h => by
    obtain ⟨h1, h2, h3⟩ := S.fr a o h
    exact ⟨h1, fun j hj => by
      unfold offB at hj
      split at hj
      · cases hj
      · exact h2 j hj, h3⟩
  io := S.io
  tb := S.tb
  ih := S.ih
  rg := S.rg
/-- the state as it was, behind an expression under a borrowing -/
theorem SR.back {own own' : Own} {F F' H H' : Hp} {σ σ' : L2.St} {e e' : En} {g g' : Rng} (S : SR C own F H σ e g) (x : ExtI C H H') (S' : SR C own' F' H' σ' e' g') : SR C own F H' σ e g' :=
  S.ext x S'.io S'.tb fun r c h => (S'.rg r c h).2.2.2
def borE (B : List Nat) (f : ME) : ME := fun e g => match f (borrow B e) g with
  | .ok p => if p.1.noLst = true then .ok p else .stuck
  | .err x => if D.noLstL x.l = true then .err x else .stuck
  | .stuck => .stuck
def borT (B : List Nat) (f : MT) : MT := fun e g => match f (borrow B e) g with
  | .ok p => .ok p
  | .err x => if D.noLstL x.l = true then .err x else .stuck
  | .stuck => .stuck
theorem de_bor {f : ME} (B : List Nat) (h : DE C x f) : DE C x (borE B f) := pe_imp h fun σ H Q ⟨own, F, e, g, S, o⟩ => ⟨offB B own, F, borrow B e, g, S.borrow B, by
  unfold borE at o
  cases hf : f (borrow B e) g with
  | ok p =>
    obtain ⟨d, g'⟩ := p
    rw [hf] at o
    by_cases hd : d.noLst = true
    · simp only [hd, if_true] at o
      exact fun H' v x S' r => o H' v x (S.back x S') (r.any hd)
    · simp only [hd, if_false] at o; exact o.elim
  | err y =>
    rw [hf] at o
    by_cases hd : D.noLstL y.l = true
    · simp only [hd, if_true] at o
      exact fun H' c dd x ⟨g', S'⟩ ⟨Ca, d, vs, h1, h2, h3, h4, h5, h6⟩ => o H' c dd x ⟨g', S.back x S'⟩ ⟨Ca, d, vs, h1, h2, h3, h4, h5, h6.any hd⟩
    · simp only [hd, if_false] at o; exact o.elim
  | stuck => rw [hf] at o; exact o.elim⟩
theorem dt_bor {f : MT} (B : List Nat) (h : DT C x f) : DT C x (borT B f) := pt_imp h fun σ H Q ⟨own, F, e, g, S, o⟩ => ⟨offB B own, F, borrow B e, g, S.borrow B, by
  unfold borT at o
  cases hf : f (borrow B e) g with
  | ok p =>
    obtain ⟨d, g'⟩ := p
    rw [hf] at o
    exact fun H' x S' => o H' x (S.back x S')
  | err y =>
    rw [hf] at o
    by_cases hd : D.noLstL y.l = true
    · simp only [hd, if_true] at o
      exact fun H' c dd x ⟨g', S'⟩ ⟨Ca, d, vs, h1, h2, h3, h4, h5, h6⟩ => o H' c dd x ⟨g', S.back x S'⟩ ⟨Ca, d, vs, h1, h2, h3, h4, h5, h6.any hd⟩
    · simp only [hd, if_false] at o; exact o.elim
  | stuck => rw [hf] at o; exact o.elim⟩
end

/-! ### calls of defs -/
def OutD (g : G) (H : Hp) (A : Addr → Prop) (E : XK) (r : Res D) (Q : VK) : Prop := match r with
  | .ok d => ∀ H' v, SameT g.tb H H' → Tabs g.tb H' → Rep g H' (fun a => A a ∨ H a = none) d v → Q v H'
  | .err x => ∀ H' c dd, SameT g.tb H H' → Tabs g.tb H' → RepX g H' (fun a => A a ∨ H a = none) x c dd → E c dd H'
  | .stuck => False
/-- a def that makes of trees a tree, or raises, and changes nothing -/
def spD (g : G) (m : List D → Res D) : Sp := fun vs H Q E => ∃ (A : Addr → Prop) (ds : List D), RepL g H A ds vs ∧ Tabs g.tb H ∧ (∀ a, A a → ∀ p ∈ g.tb, p.1 ≠ a) ∧ OutD g H A E (m ds) Q
def OutDG (g : G) (H : Hp) (A : Addr → Prop) (r c : Addr) (z : Res (D × Rng)) (Q : VK) : Prop := match z with
  | .ok (d, g') => ∀ H' v, (∀ a o, H a = some o → a ≠ r → (∀ p ∈ g.tb, p.1 ≠ a) → H' a = some o) → Tabs g.tb H' → RngAt H' r c g' → Rep g H' (fun a => A a ∨ H a = none) d v → Q v H'
  | .err _ => False
  | .stuck => False
/-- a def that draws: its first argument is the drawing's list -/
def spG (g : G) (m : List D → Rng → Res (D × Rng)) : Sp := fun vs H Q E => ∃ (A : Addr → Prop) (ds : List D) (r c : Addr) (gg : Rng) (ws : List V), vs = .ref r :: ws ∧ RngAt H r c gg ∧ RepL g H A ds ws ∧ ¬ A r ∧ Tabs g.tb H ∧ (∀ a, A a → ∀ p ∈ g.tb, p.1 ≠ a) ∧ OutDG g H A r c (m ds gg) Q
section
variable {C : Ctx} {x a b : Expr} {fa fb : ME} {pos p : Pos} {k : Nat} {f : Addr} {fd : FuncData} {ps : List Str} {ds : List Value} {n : Str} {es : List Expr} {fs : MA}
theorem passN {X : Cx} : Passes (L2N.CX X.prog X.w) X E0 := fun _ _ _ _ _ _ _ c => by
  obtain ⟨_, _, _, _, _, _, _, _, _, _, _, _, z⟩ := c
  exact z.elim
theorem Al_tb {own : Own} : ∀ a, C.Al own a → ∀ p ∈ C.g.tb, p.1 ≠ a := fun a h p hp z => h.2.2 (.inr ⟨p, hp, z⟩)
theorem OutE.toD {own : Own} {F H : Hp} {σ : L2.St} {e : En} {g : Rng} {r : Res D} {Q : VK} (S : SR C own F H σ e g) (h : OutE C own F σ e H (pureG r g) Q) : OutD C.g H (C.Al own) (fun c dd H' => C.W c dd σ H') r Q := by
  have up : ∀ {a : Addr}, (C.Al own a ∨ H a = none) → C.Al own a := fun q => q.elim id S.fresh
  cases r with
  | ok d => exact fun H' v s t r => h H' v (S.call s t).1 (S.call s t).2 (r.mono (.same fun _ _ z => z) fun a q _ => up q)
  | err x => exact fun H' c dd s t ⟨Ca, d, vs, h1, h2, h3, h4, h5, h6⟩ => h H' c dd (S.call s t).1 ⟨g, (S.call s t).2⟩ ⟨Ca, d, vs, h1, h2, h3, h4, h5, h6.mono (.same fun _ _ z => z) fun a q _ => up q⟩
  | stuck => exact h
theorem de_callF {m : List D → Res D} {dvs : List V} {dd : List D} (FF : FnOk C.X.prog C.X.w C.X.K C.X.mg C.X.base (L2N.CX C.X.prog C.X.w) k f fd ps (spD C.g m)) (hr : Room k C.X.A) (tk : L2N.Takes C.X C.W) (hg : Gl C.X n) (hm : C.X.mg n = some (.ref f)) (hk : PySem.W.keepIn C.X.K (.ref f) = true) (hb : L2.Binds C.X.K fd ps ds) (hd : Vals dvs ds) (hdd : ∀ H A, RepL C.g H A dd dvs)
    (ha : DA C (a :: es) fs) (hdb : (n == ("__debug__" : Str)) = false := by decide) (he : starEach (a :: es) C.X.env = (false, eval a C.X.env) :: starEach es C.X.env := by rfl) (hpl : (backTo pos (starEach es C.X.env)).any (·.1) = false := by rfl) :
    DE C (.Call (.Name n p) (a :: es) [] pos) (eCall (fun l => m (l ++ dd)) fs) :=
  pe_imp (pe_callSD (E := WE C.W) FF hr hg hm hk hb hd (fun σ => L2N.passAt tk σ) ha hdb he hpl) fun σ H Q ⟨own, F, e, g, S, o⟩ => ⟨own, F, e, g, S, OutE.bindA o fun l g1 H1 vs x1 S1 r1 o1 => ⟨C.Al own, l ++ dd, r1.append (hdd _ _), S1.tb, Al_tb, o1.toD S1⟩⟩
theorem de_call0 {m : List D → Res D} {d : D} {dvs : List V} {dd : List D} (FF : FnOk C.X.prog C.X.w C.X.K C.X.mg C.X.base (L2N.CX C.X.prog C.X.w) k f fd ps (spD C.g m)) (hr : Room k C.X.A) (hg : Gl C.X n) (hm : C.X.mg n = some (.ref f)) (hk : PySem.W.keepIn C.X.K (.ref f) = true) (hb : L2.Binds C.X.K fd ps ds) (hd : Vals dvs ds) (hdd : ∀ H A, RepL C.g H A dd dvs) (hv : m dd = .ok d)
    (hdb : (n == ("__debug__" : Str)) = false := by decide) : DE C (.Call (.Name n p) [] [] pos) (eC d) :=
  pe_imp (pe_call0 (E := E0) FF hr hg hm hk hb hd passN hdb) fun σ H Q ⟨own, F, e, g, S, o⟩ => ⟨C.Al own, dd, by simpa using hdd _ _, S.tb, Al_tb, by
    rw [hv]
    exact fun H' v s t r => o H' v (S.call s t).1 (S.call s t).2 (r.mono (.same fun _ _ z => z) fun a q _ => q.elim id fun z => S.fresh z)⟩
def eCallG (i : Nat) (m : List D → Rng → Res (D × Rng)) (fs : MA) : ME := fun e g => match e[i]? with
  | some .rng => (fs e g).bind fun p => match m p.1 p.2 with
    | .ok q => .ok q
    | _ => .stuck
  | _ => .stuck
theorem de_callG {m : List D → Rng → Res (D × Rng)} {i : Nat} {y : Expr} (FF : FnOk C.X.prog C.X.w C.X.K C.X.mg C.X.base (L2N.CX C.X.prog C.X.w) k f fd ps (spG C.g m)) (hr : Room k C.X.A) (hg : Gl C.X n) (hm : C.X.mg n = some (.ref f)) (hk : PySem.W.keepIn C.X.K (.ref f) = true) (hb : L2.Binds C.X.K fd ps [])
    (hv : PE C.X y (tVar i)) (ha : DA C es fs) (hdb : (n == ("__debug__" : Str)) = false := by decide) (he : starEach (y :: es) C.X.env = (false, eval y C.X.env) :: starEach es C.X.env := by rfl) (hpl : (backTo pos (starEach es C.X.env)).any (·.1) = false := by rfl) :
    DE C (.Call (.Name n p) (y :: es) [] pos) (eCallG i m fs) :=
  pe_imp (pe_call (E := E0) FF hr hg hm hk hb .nil passN (pa_cons hv ha he) hdb he hpl) fun σ H Q ⟨own, F, e, g, S, o⟩ => by
    unfold eCallG at o
    cases hs : e[i]? with
    | none => rw [hs] at o; exact o.elim
    | some s =>
      rw [hs] at o
      cases s with
      | un => exact o.elim
      | ex y => exact o.elim
      | sh d => exact o.elim
      | ow l => exact o.elim
      | me => exact o.elim
      | rng =>
        obtain ⟨r, c, h1, h2⟩ := S.sl i _ hs
        refine ⟨.ref r, h2, own, F, e, g, S, OutE.bindA o fun l g1 H1 vs x1 S1 r1 o1 => ?_⟩
        obtain ⟨hi, hc, hc0, R⟩ := S1.rg r c h1
        refine ⟨C.Al own, l, r, c, g1, vs, by simp, R, r1, fun z => z.2.2 hi, S1.tb, Al_tb, ?_⟩
        cases hm : m l g1 with
        | ok q =>
          obtain ⟨d, g2⟩ := q
          simp only [hm] at o1
          intro H' v hx ht hR hv
          have x2 : ExtI C H1 H' := fun a o z n => hx a o z (fun e => n (e ▸ hi)) fun p hp z => n (.inr ⟨p, hp, z⟩)
          have S2 : SR C own F H' σ e g2 := S1.ext x2 (fun a z => by
            rcases z with ⟨c', z⟩ | ⟨p, hp, rfl⟩
            · rw [h1] at z; cases z
              exact ⟨_, hR.at_, .inl ⟨_, rfl⟩⟩
            · exact ht.at_ hp) ht fun r' c' z => by
              rw [h1] at z; cases z
              exact hR
          exact o1 H' v x2 S2 (hv.mono (.same fun _ _ z => z) fun a q _ => q.elim id S1.fresh)
        | err y => simp only [hm] at o1; exact o1.elim
        | stuck => simp only [hm] at o1; exact o1.elim
end
end DL

set_option Elab.async false
set_option linter.all false
set_option maxRecDepth 100000
/-! DL5: statements, loops, a def's promise by its body. -/
namespace DL
open PySem L2

def Ctx.AR (C : Ctx) (a : Addr) : Prop := (C.A a ∨ C.H0 a = none) ∧ ¬ C.io a
def OutS (C : Ctx) (F : Hp) (r : Res Out) (D : Ends) : Prop := match r with
  | .ok (.nx e' g') => ∀ own' σ' H', SR C own' F H' σ' e' g' → D.nx σ' H'
  | .ok (.bk e' g') => ∀ own' σ' H', SR C own' F H' σ' e' g' → D.bk σ' H'
  | .ok (.ct e' g') => ∀ own' σ' H', SR C own' F H' σ' e' g' → D.ct σ' H'
  | .ok (.rt d g') => ∀ own' σ' e' H' v, SR C own' F H' σ' e' g' → Rep C.g H' C.AR d v → D.rt v H'
  | .err x => ∀ own' σ' e' g' H' c dd, SR C own' F H' σ' e' g' → RepX C.g H' (C.Al own') x c dd → C.W c dd σ' H'
  | .stuck => False
def tDS (C : Ctx) (f : MS) : TS := fun D σ H => ∃ own F e g, SR C own F H σ e g ∧ OutS C F (f e g) D
def DS (C : Ctx) (x : Stmt) (f : MS) : Prop := PS C.X x (tDS C f)
def DSs (C : Ctx) (x : List Stmt) (f : MS) : Prop := PSs C.X x (tDS C f)

def sNx : MS := fun e g => .ok (.nx e g)
def sSeq (a b : MS) : MS := fun e g => (a e g).bind fun o => match o with
  | .nx e' g' => b e' g'
  | o => .ok o
def sAsg (i : Nat) (f : ME) : MS := fun e g => (f e g).bind fun p => .ok (.nx (e.set i (.sh p.1)) p.2)
def sAsgF (i : Nat) (f : MA) : MS := fun e g => (f e g).bind fun p => .ok (.nx (e.set i (.ow p.1)) p.2)
def sRet (B : List Nat) (f : ME) : MS := fun e g => (f (borrow B e) g).bind fun p => .ok (.rt p.1 p.2)
def sRetN : MS := fun e g => .ok (.rt .non g)
def sDrop (f : ME) : MS := fun e g => (f e g).bind fun p => .ok (.nx e p.2)
def sIf (c : MT) (a b : MS) : MS := fun e g => (c e g).bind fun p => if p.1 = true then a e p.2 else b e p.2
def sBk : MS := fun e g => .ok (.bk e g)
def sCt : MS := fun e g => .ok (.ct e g)

section
variable {C : Ctx} {x a b : Expr} {st : Stmt} {rest sts : List Stmt} {fa fb : ME} {f1 f2 : MS} {pos : Pos}
theorem offB_nil (own : Own) : offB [] own = own := by funext j; simp [offB]
theorem borrow_nil (e : En) : borrow [] e = e := by
  unfold borrow
  apply List.ext_getElem
  · simp
  · intro i h1 h2
    rw [List.getElem_mapIdx]
    cases e[i] <;> simp
theorem SR.tr {own : Own} {F H : Hp} {σ : L2.St} {e : En} {g : Rng} (S : SR C own F H σ e g) : True := trivial
/-- a slot gets a tree -/
theorem SR.set {own : Own} {F H : Hp} {σ : L2.St} {e : En} {g : Rng} {i : Nat} {d : D} {v : V} (S : SR C own F H σ e g) (r : Rep C.g H (C.Al own) d v) : SR C (offB [i] own) F H (σ.set i (some v)) (e.set i (.sh d)) g where
  len := by simp [S.len]
  sl := fun j s hs => by
    by_cases hj : i = j
    · subst hj
      have hi : i < e.length := by
        have := (List.getElem?_eq_some_iff.mp hs).1
        simpa using this
      rw [List.getElem?_set_self hi] at hs
      cases hs
      exact ⟨v, by rw [List.getElem?_set_self (by rw [S.len]; exact hi)], r.mono (.same fun _ _ z => z) fun a q _ => Al_off q⟩
    · rw [List.getElem?_set_ne hj] at hs
      have z := S.sl j s hs
      have e2 : (σ.set i (some v))[j]? = σ[j]? := List.getElem?_set_ne hj
      cases s with
      | un => trivial
      | ex y => exact ExR.mono (e2 ▸ z) (.same fun _ _ z => z) (fun _ _ q => q) fun a q _ => Al_off q
      | sh d =>
        obtain ⟨w, e1, e3⟩ := z
        exact ⟨w, by rw [e2]; exact e1, e3.mono (.same fun _ _ z => z) fun a q _ => Al_off q⟩
      | ow l =>
        obtain ⟨p, vs, e1, e3, e4, e5⟩ := z
        exact ⟨p, vs, by unfold offB; rw [if_neg (by simp; exact fun h => hj h.symm)]; exact e1, by rw [e2]; exact e3, e4, e5.mono (.same fun _ _ z => z) fun a q _ => Al_off q⟩
      | rng =>
        obtain ⟨r, c, e1, e3⟩ := z
        exact ⟨r, c, e1, by rw [e2]; exact e3⟩
      | me =>
        obtain ⟨a, e1, e3⟩ := z
        exact ⟨a, e1, by rw [e2]; exact e3⟩
  on := (S.borrow [i]).on
  ph := fun j p h hj => by
    unfold offB at h
    split at h
    · cases h
    · rename_i hn
      have hij : i ≠ j := fun z => hn (by simp [z])
      rw [List.getElem?_set_ne hij]
      exact S.ph j p h (by simpa using hj)
  inj := (S.borrow [i]).inj
  fin := (S.borrow [i]).fin
  h0 := S.h0
  fr := (S.borrow [i]).fr
  io := S.io
  tb := S.tb
  ih := S.ih
  rg := S.rg
/-- a slot gets a new list of its own -/
theorem SR.setF {own : Own} {F H H' : Hp} {σ : L2.St} {e : En} {g g0 : Rng} {i : Nat} {l : List D} {p : Addr} {vs : List V} (S0 : SR C own F H σ e g0) (x : ExtI C H H') (S : SR C own F H' σ e g) (n : H p = none) (hp : H' p = some (.lst vs)) (r : RepL C.g H' (fun a => C.Al own a ∧ a ≠ p) l vs) :
    SR C (fun j => if j = i then some p else own j) F H' (σ.set i (some (.ref p))) (e.set i (.ow l)) g := by
  have fp : C.Al own p := S0.fresh n
  have up : ∀ {a : Addr}, (C.Al own a ∧ a ≠ p) → C.Al (fun j => if j = i then some p else own j) a := fun {a} q => ⟨q.1.1, fun j hj => by
    by_cases h : j = i
    · simp only [h, if_true] at hj
      exact q.2 (Option.some.inj hj).symm
    · simp only [h, if_false] at hj
      exact q.1.2.1 j hj, q.1.2.2⟩
  refine ⟨by simp [S.len], fun j s hs => ?_, fun j q h => ?_, fun j q h hl => ?_, fun j k q h h' => ?_, ?_, S.h0, fun a o h => ?_, S.io, S.tb, S.ih, S.rg⟩
  · by_cases hj : i = j
    · subst hj
      have hi : i < e.length := by
        have := (List.getElem?_eq_some_iff.mp hs).1
        simpa using this
      rw [List.getElem?_set_self hi] at hs
      cases hs
      exact ⟨p, vs, by simp, by rw [List.getElem?_set_self (by rw [S.len]; exact hi)], hp, r.mono (.same fun _ _ z => z) fun a q _ => up q⟩
    · rw [List.getElem?_set_ne hj] at hs
      have z := S0.sl j s hs
      have e2 : (σ.set i (some (V.ref p)))[j]? = σ[j]? := List.getElem?_set_ne hj
      cases s with
      | un => trivial
      | ex y => exact ExR.mono (e2 ▸ z) (S0.keep x) (S0.xdExt x) fun a q ⟨o, z⟩ => up ⟨q, ne_of_none z n⟩
      | sh d =>
        obtain ⟨w, e1, e3⟩ := z
        exact ⟨w, by rw [e2]; exact e1, e3.mono (S0.keep x) fun a q ⟨o, z⟩ => up ⟨q, ne_of_none z n⟩⟩
      | ow l' =>
        obtain ⟨q, ws, e1, e3, e4, e5⟩ := z
        exact ⟨q, ws, by simp only [show j ≠ i from fun h => hj h.symm, if_false]; exact e1, by rw [e2]; exact e3, x _ _ e4 (S0.on j q e1).2.2, e5.mono (S0.keep x) fun a q ⟨o, z⟩ => up ⟨q, ne_of_none z n⟩⟩
      | rng =>
        obtain ⟨r, c, e1, e3⟩ := z
        exact ⟨r, c, e1, by rw [e2]; exact e3⟩
      | me =>
        obtain ⟨a, e1, e3⟩ := z
        exact ⟨a, e1, by rw [e2]; exact e3⟩
  · by_cases hj : j = i
    · simp only [hj, if_true] at h
      cases h
      refine ⟨⟨vs, hp⟩, ?_, fp.2.2⟩
      cases hz : C.H0 p with
      | none => rfl
      | some o =>
        have := S0.h0 p o hz fp.2.2
        rw [n] at this; cases this
    · simp only [hj, if_false] at h
      exact S.on j q h
  · by_cases hj : j = i
    · subst hj
      exact ⟨l, by rw [List.getElem?_set_self (by simpa using hl)]⟩
    · simp only [hj, if_false] at h
      rw [List.getElem?_set_ne (Ne.symm hj)]
      exact S.ph j q h (by simpa using hl)
  · by_cases hj : j = i
    · by_cases hk : k = i
      · rw [hj, hk]
      · simp only [hj, if_true] at h
        simp only [hk, if_false] at h'
        cases h
        exact (fp.2.1 k h').elim
    · by_cases hk : k = i
      · simp only [hj, if_false] at h
        simp only [hk, if_true] at h'
        cases h'
        exact (fp.2.1 j h).elim
      · simp only [hj, if_false] at h
        simp only [hk, if_false] at h'
        exact S.inj j k q h h'
  · obtain ⟨m, hm⟩ := S.fin
    exact ⟨max m (i + 1), fun j hj => by
      have : j ≠ i := by omega
      simp only [this, if_false]
      exact hm j (by omega)⟩
  · obtain ⟨h1, h2, h3⟩ := S.fr a o h
    refine ⟨h1, fun j hj => ?_, h3⟩
    by_cases hji : j = i
    · simp only [hji, if_true] at hj
      have := (S0.fr a o h).1
      rw [← Option.some.inj hj, n] at this; cases this
    · simp only [hji, if_false] at hj
      exact h2 j hj
/-- a list of one's own changes -/
theorem SR.updRep {own : Own} {F H : Hp} {σ : L2.St} {e : En} {g : Rng} {i : Nat} {p : Addr} {vs : List V} (S : SR C own F H σ e g) (hi : own i = some p) {l : List D} {vs' : List V} (q : RepL C.g H (C.Al own) l vs') : RepL C.g (L2.upd H p (.lst vs)) (C.Al own) l vs' := by
  refine q.mono ⟨fun a xs h => ?_, fun a o h1 h2 => ?_⟩ fun a q _ => q
  · have n : a ≠ p := fun z => by
      obtain ⟨⟨ys, hy⟩, _⟩ := S.on i p hi
      rcases h with h | ⟨o, h⟩ <;> (rw [z, hy] at h; cases h)
    rcases h with h | ⟨o, h⟩
    · exact .inl (by rw [upd_ne n]; exact h)
    · exact .inr ⟨o, by rw [upd_ne n]; exact h⟩
  · have n : a ≠ p := fun z => h1.2.1 i (z ▸ hi)
    rw [upd_ne n]; exact h2
theorem SR.upd {own : Own} {F H : Hp} {σ : L2.St} {e : En} {g : Rng} {i : Nat} {l : List D} {p : Addr} {vs : List V} (S : SR C own F H σ e g) (hi : own i = some p) (hs : i < e.length → σ[i]? = some (some (.ref p))) (r : RepL C.g H (C.Al own) l vs) :
    SR C own F (L2.upd H p (.lst vs)) σ (e.set i (.ow l)) g := by
  have k : ∀ {l : List D} {vs' : List V}, RepL C.g H (C.Al own) l vs' → RepL C.g (L2.upd H p (.lst vs)) (C.Al own) l vs' := fun q => S.updRep hi q
  have k1 : ∀ {l : D} {vs' : V}, Rep C.g H (C.Al own) l vs' → Rep C.g (L2.upd H p (.lst vs)) (C.Al own) l vs' := fun q => by
    have := k (RepL.cons q .nil)
    obtain ⟨v, r, e, h, _⟩ := this.toCons
    cases e; exact h
  refine ⟨by simp [S.len], fun j s hs' => ?_, fun j q h => ?_, fun j q h hl => ?_, S.inj, S.fin, fun a o h n => ?_, fun a o h => ?_, fun a h => ?_, ?_, S.ih, fun r c h => ?_⟩
  · by_cases hj : i = j
    · subst hj
      have hi' : i < e.length := by
        have := (List.getElem?_eq_some_iff.mp hs').1
        simpa using this
      rw [List.getElem?_set_self hi'] at hs'
      cases hs'
      exact ⟨p, vs, hi, hs hi', upd_same, k r⟩
    · rw [List.getElem?_set_ne hj] at hs'
      have z := S.sl j s hs'
      cases s with
      | un => trivial
      | ex y =>
        obtain ⟨a, oe, Ca, dd, us, q1, q2, q3, q4, q5, q6, q7, q8⟩ := z
        exact ⟨a, oe, Ca, dd, us, q1, q2, q3, q4, q5, by rw [upd_ne (show dd ≠ p from fun z => (S.noXd q6).2 i (by rw [hi, z]))]; exact q6, q7, k q8⟩
      | sh d =>
        obtain ⟨w, e1, e3⟩ := z
        exact ⟨w, e1, k1 e3⟩
      | ow l' =>
        obtain ⟨q, ws, e1, e3, e4, e5⟩ := z
        have n : q ≠ p := fun z => hj (S.inj i j p hi (z ▸ e1))
        exact ⟨q, ws, e1, e3, by rw [upd_ne n]; exact e4, k e5⟩
      | rng => exact z
      | me => exact z
  · obtain ⟨⟨xs, h1⟩, h2, h3⟩ := S.on j q h
    by_cases hq : q = p
    · subst hq
      exact ⟨⟨vs, upd_same⟩, h2, h3⟩
    · exact ⟨⟨xs, by rw [upd_ne hq]; exact h1⟩, h2, h3⟩
  · by_cases hj : i = j
    · subst hj
      exact ⟨l, by rw [List.getElem?_set_self (by simpa using hl)]⟩
    · rw [List.getElem?_set_ne hj]
      exact S.ph j q h (by simpa using hl)
  · have np : a ≠ p := fun z => by
      have := (S.on i p hi).2.1
      rw [z, this] at h; cases h
    rw [upd_ne np]
    exact S.h0 a o h n
  · obtain ⟨h1, h2, h3⟩ := S.fr a o h
    have np : a ≠ p := fun z => h2 i (z ▸ hi)
    exact ⟨by rw [upd_ne np]; exact h1, h2, h3⟩
  · obtain ⟨xs, h1, h2⟩ := S.io a h
    have np : a ≠ p := fun z => (S.on i p hi).2.2 (z ▸ h)
    exact ⟨xs, by rw [upd_ne np]; exact h1, h2⟩
  · obtain ⟨⟨ys, hy⟩, _⟩ := S.on i p hi
    exact S.tb.upd hy
  · obtain ⟨h1, h2, h3, R⟩ := S.rg r c h
    have np : r ≠ p := fun z => (S.on i p hi).2.2 (z ▸ h1)
    have nc : c ≠ p := fun z => h3 (by rw [z]; exact (S.on i p hi).2.1)
    exact ⟨h1, h2, h3, R.ne, by rw [upd_ne np]; exact R.at_, by rw [upd_ne nc]; exact R.ce, R.i0, R.b0, R.s0, R.s1, R.cl⟩

theorem OutS.bindE {own : Own} {F H : Hp} {σ : L2.St} {e : En} {r : Res (D × Rng)} {k : D × Rng → Res Out} {D' : Ends} {Q1 : VK} (h : OutS C F (r.bind k) D')
    (hq : ∀ d g1 H1 v, ExtI C H H1 → SR C own F H1 σ e g1 → Rep C.g H1 (C.Al own) d v → OutS C F (k (d, g1)) D' → Q1 v H1) : OutE C own F σ e H r Q1 := by
  cases r with
  | ok a =>
    obtain ⟨d, g1⟩ := a
    exact fun H1 v x S r1 => hq d g1 H1 v x S r1 h
  | err y => exact fun H' c dd x ⟨g', S⟩ r => h _ _ _ _ _ _ _ S r
  | stuck => exact h
theorem OutS.bindT {own : Own} {F H : Hp} {σ : L2.St} {e : En} {r : Res (Bool × Rng)} {k : Bool × Rng → Res Out} {D' : Ends} {Q1 : Bool → Hp → Prop} (h : OutS C F (r.bind k) D')
    (hq : ∀ d g1 H1, ExtI C H H1 → SR C own F H1 σ e g1 → OutS C F (k (d, g1)) D' → Q1 d H1) : OutT C own F σ e H r Q1 := by
  cases r with
  | ok a =>
    obtain ⟨d, g1⟩ := a
    exact fun H1 x S => hq d g1 H1 x S h
  | err y => exact fun H' c dd x ⟨g', S⟩ r => h _ _ _ _ _ _ _ S r
  | stuck => exact h
theorem OutS.bindF {own : Own} {F H : Hp} {σ : L2.St} {e : En} {r : Res (List D × Rng)} {k : List D × Rng → Res Out} {D' : Ends} {Q1 : VK} (h : OutS C F (r.bind k) D')
    (hq : ∀ l g1 H' p vs, ExtI C H H' → H p = none → H' p = some (.lst vs) → SR C own F H' σ e g1 → RepL C.g H' (fun a => C.Al own a ∧ a ≠ p) l vs → OutS C F (k (l, g1)) D' → Q1 (.ref p) H') : OutF C own F σ e H r Q1 := by
  cases r with
  | ok a =>
    obtain ⟨d, g1⟩ := a
    exact fun H1 p vs x n hp S r1 => hq d g1 H1 p vs x n hp S r1 h
  | err y => exact fun H' c dd x ⟨g', S⟩ r => h _ _ _ _ _ _ _ S r
  | stuck => exact h

theorem dss_nil : DSs C [] sNx := pss_imp pss_nil fun D σ H ⟨own, F, e, g, S, o⟩ => o _ _ _ S
theorem dss_cons (h1 : DS C st f1) (h2 : DSs C rest f2) : DSs C (st :: rest) (sSeq f1 f2) := pss_imp (pss_cons h1 h2) fun D σ H ⟨own, F, e, g, S, o⟩ => ⟨own, F, e, g, S, by
  unfold sSeq at o
  cases hf : f1 e g with
  | ok u =>
    rw [hf] at o
    cases u with
    | nx e' g' => exact fun own' σ' H' S' => ⟨own', F, e', g', S', o⟩
    | rt d g' => exact o
    | bk e' g' => exact o
    | ct e' g' => exact o
  | err y => rw [hf] at o; exact o
  | stuck => rw [hf] at o; exact o.elim⟩
theorem dss_one (h1 : DS C st f1) : DSs C [st] f1 := pss_one h1
theorem ds_pass : DS C (.Pass pos) sNx := ps_imp ps_pass fun D σ H ⟨own, F, e, g, S, o⟩ => o _ _ _ S
theorem ds_break : DS C (.Break pos) sBk := ps_imp ps_break fun D σ H ⟨own, F, e, g, S, o⟩ => o _ _ _ S
theorem ds_continue : DS C (.Continue pos) sCt := ps_imp ps_continue fun D σ H ⟨own, F, e, g, S, o⟩ => o _ _ _ S
theorem ds_set {i : Nat} (h : ∀ {t : TE}, PE C.X x t → PS C.X st (tAsg t (gName i))) (ha : DE C x fa) : DS C st (sAsg i fa) := ps_imp (h ha) fun D σ H ⟨own, F, e, g, S, o⟩ => ⟨own, F, e, g, S, OutS.bindE o fun d g1 H1 v x1 S1 r1 o1 => o1 _ _ _ (S1.set r1)⟩
theorem ds_setF {i : Nat} {f : MA} (h : ∀ {t : TE}, PE C.X x t → PS C.X st (tAsg t (gName i))) (ha : DF C x f) : DS C st (sAsgF i f) := ps_imp (h ha) fun D σ H ⟨own, F, e, g, S, o⟩ => ⟨own, F, e, g, S, OutS.bindF o fun l g1 H1 p vs x1 n hp S1 r1 o1 => o1 _ _ _ (S.setF x1 S1 n hp r1)⟩
theorem ds_ret (B : List Nat) (ha : DE C x fa) : DS C (.Return (some x) pos) (sRet B fa) := ps_imp (ps_ret ha) fun D σ H ⟨own, F, e, g, S, o⟩ => ⟨_, F, _, g, S.borrow B, OutS.bindE o fun d g1 H1 v x1 S1 r1 o1 => o1 _ _ _ _ _ S1 (r1.mono (.same fun _ _ z => z) fun a q _ => ⟨q.1, q.2.2⟩)⟩
theorem ds_retN : DS C (.Return none pos) sRetN := ps_imp ps_retN fun D σ H ⟨own, F, e, g, S, o⟩ => o _ _ _ _ _ S .non_
theorem ds_expr (ha : DE C x fa) (hs : swapsWith x none pos.line C.X.env = pure false := by rfl) : DS C (.Expr x pos) (sDrop fa) := ps_imp (ps_expr ha hs) fun D σ H ⟨own, F, e, g, S, o⟩ => ⟨own, F, e, g, S, OutS.bindE o fun d g1 H1 v x1 S1 r1 o1 => o1 _ _ _ S1⟩
theorem ds_if {c : Expr} {tc : MT} {sa sb : List Stmt} (hc : DT C c tc) (ha : DSs C sa f1) (hb : DSs C sb f2) : DS C (.If c sa sb pos) (sIf tc f1 f2) := ps_imp (ps_if hc ha hb) fun D σ H ⟨own, F, e, g, S, o⟩ => ⟨own, F, e, g, S, OutS.bindT o fun d g1 H1 x1 S1 o1 => by
  cases d with
  | true => exact ⟨own, F, e, g1, S1, o1⟩
  | false => exact ⟨own, F, e, g1, S1, o1⟩⟩
/-- a statement that is seen behind the freezing of lists -/
def sFrz (B : List Nat) (f : MS) : MS := fun e g => f (borrow B e) g
theorem dss_frz (B : List Nat) (h : DSs C sts f1) : DSs C sts (sFrz B f1) := pss_imp h fun D σ H ⟨own, F, e, g, S, o⟩ => ⟨_, F, _, g, S.borrow B, o⟩

/-! ### two names at once -/
def sPar (i j : Nat) (f : MA) : MS := fun e g => (f e g).bind fun p => match p.1 with
  | [d, d'] => .ok (.nx ((e.set i (.sh d)).set j (.sh d')) p.2)
  | _ => .stuck
theorem OutS.bindA {own : Own} {F H : Hp} {σ : L2.St} {e : En} {r : Res (List D × Rng)} {k : List D × Rng → Res Out} {D' : Ends} {Q1 : List V → Hp → Prop} (h : OutS C F (r.bind k) D')
    (hq : ∀ d g1 H1 v, ExtI C H H1 → SR C own F H1 σ e g1 → RepL C.g H1 (C.Al own) d v → OutS C F (k (d, g1)) D' → Q1 v H1) : OutA C own F σ e H r Q1 := by
  cases r with
  | ok a =>
    obtain ⟨d, g1⟩ := a
    exact fun H1 v x S r1 => hq d g1 H1 v x S r1 h
  | err y => exact fun H' c dd x ⟨g', S⟩ r => h _ _ _ _ _ _ _ S r
  | stuck => exact h
theorem ds_par {i j : Nat} {es : List Expr} {f : MA} (h : ∀ {t : TA}, PA C.X es t → PS C.X st (tPar i j t)) (ha : DA C es f) : DS C st (sPar i j f) := ps_imp (h ha) fun D σ H ⟨own, F, e, g, S, o⟩ => ⟨own, F, e, g, S, OutS.bindA o fun l g1 H1 vs x1 S1 r1 o1 => by
  match l, r1, o1 with
  | [d, d'], r1, o1 =>
    obtain ⟨v, w, rfl, rv, rw_⟩ := two_of r1
    refine ⟨v, w, rfl, o1 _ _ _ ((S1.set rv).set (rw_.mono (.same fun _ _ z => z) fun a q _ => Al_off q))⟩⟩

/-! ### changes of a list of one's own -/
theorem lt_line {n : Nat} (h : n < 1000) : n < sizeLine := Nat.lt_trans h (by decide)
def sApp (i : Nat) (f : ME) : MS := fun e g => match e[i]? with
  | some (.ow l) => (f e g).bind fun p => if l.length < 1000 then .ok (.nx (e.set i (.ow (l ++ [p.1]))) p.2) else .stuck
  | _ => .stuck
theorem ds_app {i : Nat} (h : ∀ {t : TE}, PE C.X x t → PS C.X st (tDrop (tBM C.X.K "list" rAppend (tVar i) (tCons t tNil)))) (ha : DE C x fa) : DS C st (sApp i fa) :=
  ps_imp (h ha) fun D σ H ⟨own, F, e, g, S, o⟩ => by
    unfold sApp at o
    cases hs : e[i]? with
    | none => rw [hs] at o; exact o.elim
    | some s =>
      rw [hs] at o
      cases s <;> first | exact o.elim | skip
      rename_i l
      obtain ⟨p, vs, h1, h2, h3, h4⟩ := S.sl i _ hs
      refine ⟨.ref p, h2, .inl ⟨rfl, vs, SqL.of h3⟩, own, F, e, g, S, OutS.bindE o fun d g1 H1 v x1 S1 r1 o1 => ?_⟩
      have h3' := x1 _ _ h3 (S.on i p h1).2.2
      by_cases hl : l.length < 1000
      · simp only [hl, if_true] at o1
        exact ⟨p, vs, v, rfl, rfl, h3', by rw [← h4.length]; exact lt_line hl, o1 _ _ _ (S1.upd h1 (fun _ => h2) ((S.repL x1 h4).append (.cons r1 .nil)))⟩
      · simp only [hl, if_false] at o1; exact o1.elim
/-- x[k] = v -/
def sSetI (i : Nat) (f fk : ME) : MS := fun e g => match e[i]? with
  | some (.ow l) => (f e g).bind fun p => (fk e p.2).bind fun q => match q.1 with
    | .int k => match ixN l.length k with
      | some j => .ok (.nx (e.set i (.ow (l.set j p.1))) q.2)
      | none => .stuck
    | _ => .stuck
  | _ => .stuck
theorem ds_setI {i : Nat} (h : ∀ {t tk : TE}, PE C.X x t → PE C.X b tk → PS C.X st (tAsg t (gSub (tVar i) tk rSetL))) (ha : DE C x fa) (hb : DE C b fb) : DS C st (sSetI i fa fb) :=
  ps_imp (h ha hb) fun D σ H ⟨own, F, e, g, S, o⟩ => by
    unfold sSetI at o
    cases hs : e[i]? with
    | none => rw [hs] at o; exact o.elim
    | some s =>
      rw [hs] at o
      cases s <;> first | exact o.elim | skip
      rename_i l
      obtain ⟨p, vs, h1, h2, h3, h4⟩ := S.sl i _ hs
      refine ⟨own, F, e, g, S, OutS.bindE o fun d g1 H1 v x1 S1 r1 o1 => ⟨.ref p, h2, own, F, e, g1, S1, OutS.bindE o1 fun dk g2 H2 w x2 S2 r2 o2 => ?_⟩⟩
      have h3' := (x1.trans x2) _ _ h3 (S.on i p h1).2.2
      have h4' := S.repL (x1.trans x2) h4
      cases dk <;> first | exact o2.elim | skip
      rename_i k
      cases hk : ixN l.length k with
      | none => simp only [hk] at o2; exact o2.elim
      | some j =>
        simp only [hk] at o2
        exact ⟨p, vs, k, j, rfl, r2.toInt, h3', by rw [← h4.length]; exact hk, o2 _ _ _ (S2.upd h1 (fun _ => h2) (h4'.set (S1.rep x2 r1) j))⟩
/-- x.insert(k, v), 0 ≤ k -/
def sIns (i : Nat) (fk f : ME) : MS := fun e g => match e[i]? with
  | some (.ow l) => (fk e g).bind fun q => (f e q.2).bind fun p => match q.1 with
    | .int k => if 0 ≤ k ∧ k ≤ 1000 ∧ l.length < 1000 then .ok (.nx (e.set i (.ow (l.take k.toNat ++ [p.1] ++ l.drop k.toNat))) p.2) else .stuck
    | _ => .stuck
  | _ => .stuck
def rIns : V → List V → Hp → VK → Prop := fun x vs H Q => ∃ (l : Addr) (xs : List V) (i : Int) (y : V), x = .ref l ∧ vs = [.int i, y] ∧ H l = some (.lst xs) ∧ xs.length < sizeLine ∧ 0 ≤ i ∧ i < 2 ^ 63 ∧
    Q .non (L2.upd H l (.lst (xs.take i.toNat ++ [y] ++ xs.drop i.toNat)))
theorem ds_ins {i : Nat} (h : ∀ {t tk : TE}, PE C.X x t → PE C.X b tk → PS C.X st (tDrop (tBM C.X.K "list" rIns (tVar i) (tCons t (tCons tk tNil))))) (ha : DE C x fa) (hb : DE C b fb) : DS C st (sIns i fa fb) :=
  ps_imp (h ha hb) fun D σ H ⟨own, F, e, g, S, o⟩ => by
    unfold sIns at o
    cases hs : e[i]? with
    | none => rw [hs] at o; exact o.elim
    | some s =>
      rw [hs] at o
      cases s <;> first | exact o.elim | skip
      rename_i l
      obtain ⟨p, vs, h1, h2, h3, h4⟩ := S.sl i _ hs
      refine ⟨.ref p, h2, .inl ⟨rfl, vs, SqL.of h3⟩, own, F, e, g, S, OutS.bindE o fun dk g1 H1 v x1 S1 r1 o1 => ⟨own, F, e, g1, S1, OutS.bindE o1 fun d g2 H2 w x2 S2 r2 o2 => ?_⟩⟩
      have h3' := (x1.trans x2) _ _ h3 (S.on i p h1).2.2
      have h4' := S.repL (x1.trans x2) h4
      cases dk <;> first | exact o2.elim | skip
      rename_i k
      by_cases hk : 0 ≤ k ∧ k ≤ 1000 ∧ l.length < 1000
      · simp only [hk, and_self, if_true] at o2
        exact ⟨p, vs, k, w, rfl, by rw [r1.toInt], h3', by rw [← h4.length]; exact lt_line hk.2.2, hk.1, by omega, o2 _ _ _ (S2.upd h1 (fun _ => h2) (((h4'.take _).append (.cons r2 .nil)).append (h4'.drop _)))⟩
      · simp only [hk, if_false] at o2; exact o2.elim
/-- x.pop(k) as a statement, k in range from the front -/
def sPopAt (i : Nat) (fk : ME) : MS := fun e g => match e[i]? with
  | some (.ow l) => (fk e g).bind fun q => match q.1 with
    | .int k => if 0 ≤ k ∧ k < l.length ∧ k ≤ 1000 then .ok (.nx (e.set i (.ow (l.eraseIdx k.toNat))) q.2) else .stuck
    | _ => .stuck
  | _ => .stuck
theorem RepL.erase {g : G} {H : Hp} {A : Addr → Prop} : ∀ {l : List D} {vs : List V} (n : Nat), RepL g H A l vs → RepL g H A (l.eraseIdx n) (vs.eraseIdx n)
  | [], vs, n, h => by rw [h.toNil]; simp; exact RepL.nil
  | d :: l, vs, 0, h => by
    obtain ⟨v, r, rfl, hv, hr⟩ := h.toCons
    exact hr
  | d :: l, vs, n + 1, h => by
    obtain ⟨v, r, rfl, hv, hr⟩ := h.toCons
    exact RepL.cons hv (RepL.erase n hr)
theorem ds_popAt {i : Nat} (h : ∀ {t : TE}, PE C.X x t → PS C.X st (tDrop (tBM C.X.K "list" rPopAt (tVar i) (tCons t tNil)))) (ha : DE C x fa) : DS C st (sPopAt i fa) :=
  ps_imp (h ha) fun D σ H ⟨own, F, e, g, S, o⟩ => by
    unfold sPopAt at o
    cases hs : e[i]? with
    | none => rw [hs] at o; exact o.elim
    | some s =>
      rw [hs] at o
      cases s <;> first | exact o.elim | skip
      rename_i l
      obtain ⟨p, vs, h1, h2, h3, h4⟩ := S.sl i _ hs
      refine ⟨.ref p, h2, .inl ⟨rfl, vs, SqL.of h3⟩, own, F, e, g, S, OutS.bindE o fun dk g1 H1 v x1 S1 r1 o1 => ?_⟩
      have h3' := x1 _ _ h3 (S.on i p h1).2.2
      have h4' := S.repL x1 h4
      cases dk <;> first | exact o1.elim | skip
      rename_i k
      by_cases hk : 0 ≤ k ∧ k < l.length ∧ k ≤ 1000
      · simp only [hk, and_self, if_true] at o1
        have hlt : k.toNat < vs.length := by rw [← h4.length]; omega
        refine ⟨p, vs, k, k.toNat, vs[k.toNat], rfl, by rw [r1.toInt], h3', by omega, by omega, ?_, List.getElem?_eq_getElem hlt, o1 _ _ _ (S1.upd h1 (fun _ => h2) (h4'.erase _))⟩
        exact (ixN_seq (n := vs.length) (by unfold ixN; rw [if_pos hk.1, if_pos (by rw [← h4.length]; omega)])).1
      · simp only [hk, if_false] at o1; exact o1.elim
end
end DL

set_option Elab.async false
set_option linter.all false
set_option maxRecDepth 100000
/-! DLe: enumerate over a tuple. -/
namespace DL
open PySem PySem.Spec PyProof.Rows L2
open Sem (wp)
open AutoSeq1 (wpAny_loadPart')
set_option maxHeartbeats 1000000 in
theorem meets_enumerate_newT (l : Addr) (items : Array Value) (n : Nat) (dct : Option Addr) (sl : Array (Option Value)) :
    Meets (Builtin.«enumerate.__new__» ⟨[.type "enumerate", .ref l], []⟩) (fun _ R s => s.heap.get? l = some { cls := .type "tuple", dict := dct, data := .seq items n, slots := sl } ∧
      R (.ok (.ret (.ref (s.heap.push { cls := .type "tuple_iterator", data := .fields #[.ref l, .int 0 0] }).objs.size)))
        { s with heap := (s.heap.push { cls := .type "tuple_iterator", data := .fields #[.ref l, .int 0 0] }).push { cls := .type "enumerate", data := .fields #[.none, .bool false, .ref s.heap.objs.size, rawInt 0, .none, .none] } }) :=
  .of_wp fun prog w A R s h => by
    obtain ⟨hp, g, d, tk, os⟩ := s; obtain ⟨hl, h⟩ := h
    have hsub := sub_enumerate
    have hL : Heap.IsTuple (Shared.heap ⟨hp, g, d, tk, os⟩) l items := ⟨_, hl, rfl, n, rfl⟩
    wp_walk using wpAny_loadPart' hl
    refine wpAny_stack_any fun st => wpAny_pure ?_
    split
    · rename_i c _ _ _ _ _
      cases (c == Value.type "enumerate")
      · wp_walk using wpAny_loadPart' hl, wpAny_pyIter_tuple hL
        exact ⟨_, rfl, h⟩
      · wp_walk using wpAny_loadPart' hl, wpAny_pyIter_tuple hL
        exact ⟨_, rfl, h⟩
    · wp_walk using wpAny_loadPart' hl, wpAny_pyIter_tuple hL
      exact ⟨_, rfl, h⟩
theorem call_enumerate_tuple {prog : Program} {w : World} {A : Around} {E : Value → Shared → Prop} {s : Shared} {l : Addr} {items : Array Value} {Q : Value → Shared → Prop} (hL : s.heap.IsTuple l items)
    (h : ∀ h', IsEnum h' (s.heap.objs.size + 1) s.heap.objs.size 0 .none → h'.IsTupleIter s.heap.objs.size l 0 → h'.objs.size = s.heap.objs.size + 2 →
      (∀ b o, s.heap.get? b = some o → h'.get? b = some o) → Q (.ref (s.heap.objs.size + 1)) { s with heap := h' }) :
    wpAny (model prog w) A (call (.type "enumerate") [.ref l]) Q E s := by
  obtain ⟨⟨c, dct, dt, sl⟩, hl, hc, n, hd⟩ := hL
  replace hc : c = .type "tuple" := hc
  replace hd : dt = .seq items n := hd
  subst hc hd
  refine callType_new F.called_enumerate (by decide) (F.typeCall_enumerate_1 _) (F.newCall_enumerate_1 _) (fun obj => F.args_object_init_2 obj _) F.entry_enumerate_new
    (meets_enumerate_newT l items n dct sl) ⟨hl, ?_⟩
  have hz : (s.heap.push { cls := .type "tuple_iterator", data := .fields #[.ref l, .int 0 0] }).objs.size = s.heap.objs.size + 1 := Heap.size_push ..
  show _ ∧ _
  rw [hz]
  have he : IsEnum ((s.heap.push { cls := .type "tuple_iterator", data := .fields #[.ref l, .int 0 0] }).push
      { cls := .type "enumerate", data := .fields #[.none, .bool false, .ref s.heap.objs.size, rawInt 0, .none, .none] }) (s.heap.objs.size + 1) s.heap.objs.size 0 .none := by
    have := Heap.get?_push_size (s.heap.push { cls := .type "tuple_iterator", data := .fields #[.ref l, .int 0 0] })
      (o := { cls := .type "enumerate", data := .fields #[.none, .bool false, .ref s.heap.objs.size, rawInt 0, .none, .none] }) rfl
    rw [hz] at this; exact this
  refine ⟨⟨_, he, rfl⟩, h _ he ⟨_, Heap.get?_push_of_some _ (Heap.get?_push_size _ rfl), rfl, rfl⟩ (by rw [Heap.size_push, hz]) fun b o x => Heap.get?_push_of_some _ (Heap.get?_push_of_some _ x)⟩
theorem pyNext_enumT_end {prog : Program} {w : World} {A : Around} {E : Value → Shared → Prop} {s : Shared} {e it l : Addr} {i : Nat} {items : Array Value} {old : Value} {Q : Option Value → Shared → Prop} (hh : A.handled = none)
    (he : IsEnum s.heap e it i old) (hit : s.heap.IsTupleIter it l i) (hl : s.heap.IsTuple l items) (hx : items[i]? = none)
    (hQ : ∀ h', Heap.ExtBut it s.heap h' → Q none { s with heap := h' }) : wpAny (model prog w) A (pyNext (.ref e)) Q E s := by
  have hT : s.TypeIs (.ref e) "enumerate" := ⟨_, he, rfl⟩
  unfold pyNext
  refine wpAny_bind (wpAny_attempt (wpAny_callSpecial?_slot (name := Str.ofString "__next__") hT F.slot_enumerate_next
    (wpAny_call_entry F.slot_enumerate_next hT F.entry_enumerate_next ?_ (F.args_enumerate_next_1 _))))
  show wpAny _ _ (field (.ref e) 2 >>= _) _ _ _
  refine wpAny_bind (wpAny_field he rfl (x := .ref it) rfl ?_)
  refine wpAny_bind (wpAny_nextOf_tuple_end hh hit hl hx fun h' x he' hx' => ?_)
  obtain ⟨o, ho, hc⟩ := hx'
  refine wpAny_bind (wpAny_isInstance (T := "StopIteration") (b := true) ⟨o, ho, hc⟩ isSubtype_stop ?_)
  exact wpAny_pure (hQ _ he')
/-- the tuple at a, each item in a new pair -/
def IteT (K : PySem.W.Frag) (a : Addr) : It :=
  ⟨fun i H => ∃ (xs : List V) (x : V), SqT K H a xs ∧ xs[i]? = some x, fun i H v H' => ∃ T x, v = .ref T ∧ H T = none ∧ H' = upd H T (.tup [.int (i : Nat), x]) ∧ ∀ xs, SqT K H a xs → xs[i]? = some x, fun i H => ∃ xs : List V, SqT K H a xs ∧ xs.length ≤ i⟩
theorem turn_enumT {P : Program} {w : World} {K : PySem.W.Frag} {elts : List Expr} {kk : Nat} {tpos : Pos} (a e it : Addr) :
    Turn P w K (.Tuple elts kk tpos) (IteT K a) [e, it] e (fun i h => (∃ old, IsEnum h e it ((i : Nat) : Int) old) ∧ h.IsTupleIter it a i ∧ e ≠ it ∧ e ≠ a ∧ a ≠ it) where
  mem := by simp
  obj := fun i h st b hb => by
    obtain ⟨⟨old, he⟩, ⟨o, ho, hc, hd⟩, _⟩ := st
    have e' : b = e ∨ b = it := by simpa using hb
    rcases e' with z | z
    · rw [z]; exact ⟨_, he, fun v q => nomatch q⟩
    · rw [z]; exact ⟨o, ho, fun v q => by rw [hd] at q; cases q⟩
  keep := fun i h h' st k => let ⟨⟨old, he⟩, hi, hne⟩ := st; ⟨⟨old, k e (by simp) _ he⟩, hi.at fun o q => k it (by simp) o q, hne⟩
  item := by
    intro X hP hw hK hc i pins s σ H E I hf st hg
    subst hP hw hK
    obtain ⟨⟨old, he⟩, hit, hne, hea, hai⟩ := st
    obtain ⟨xs, x, hq, hx⟩ := hg
    obtain ⟨its, rv, p, hz⟩ := I.tuple hq
    obtain ⟨u, hu, ru⟩ := rv.get hx
    have hel : e < s.heap.objs.size := Heap.lt_size he
    have hil : it < s.heap.objs.size := by obtain ⟨_, q, _⟩ := hit; exact Heap.lt_size q
    have hh : X.A.in1.handled = none := I.ok.hd hc
    have hlt : i < its.toArray.size := by
      have := (List.getElem?_eq_some_iff.mp hu).1
      simpa using this
    refine wpAny_pyNext_enum_itemD (Draws.tuple (prog := X.prog) (w := X.w) hh it a hai its.toArray) he ⟨hit, p⟩ hlt hne (by simp [hne, hea]) fun x2 h' tk hP2 ho hst' hT hsz hk => ?_
    have hx2 : x2 = u := by
      have z : its.toArray[i]? = some x2 := hP2
      rw [List.getElem?_toArray, hu] at z
      exact (Option.some.inj z).symm
    subst hx2
    refine ⟨_, rfl, wpAny_letOwnedTupleGo_enum (s := { s with heap := h', toks := tk + 1 }) ho fun h'' he' sb => ?_⟩
    have hT2 : h''.get? s.heap.objs.size = some { cls := .type "tuple", data := .seq #[.int i tk, x2] } := (sb.2 _ (Nat.ne_of_gt hel)).trans hT
    have new : ObjOk X.prog X.w (upd H s.heap.objs.size (.tup [.int (i : Nat), x])) h'' s.heap.objs.size (.tup [.int (i : Nat), x]) :=
      ⟨by show 2 ≤ sizeLine; decide, [.int i tk, x2], .cons ⟨_, rfl⟩ (.cons ru .nil), ⟨_, hT2, rfl, _, rfl⟩⟩
    have I1 : Inv X pins σ (upd H s.heap.objs.size (.tup [.int (i : Nat), x])) { s with heap := h'', toks := tk + 1 } :=
      I.turnedNew (t' := tk + 1) (ch := [e, it]) (fun b ob hb q => (sb.2 b (fun z => hb (by simp [z]))).trans (hk b ob (fun z => hb (by simp [z])) (fun z => hb (by simp [z])) q)) hf (Nat.le_refl _) new
    refine ⟨.ref s.heap.objs.size, _, I1, rfl, ⟨_, x, rfl, I.hok.fresh (Nat.le_refl _), rfl, fun ys hy => by rw [I.tuple_inj hy hq]; exact hx⟩, ⟨⟨x2, ?_⟩, hst'.1.at fun o q => (sb.2 it (Ne.symm hne)).trans q, hne, hea, hai⟩, fun b hb => ?_⟩
    · have e1 : ((i + 1 : Nat) : Int) = (i : Int) + 1 := by omega
      rw [e1]; exact he'
    · have hb' : b < s.heap.objs.size := by
        have e' : b = e ∨ b = it := by simpa using hb
        rcases e' with z | z
        · rw [z]; exact hel
        · rw [z]; exact hil
      rw [upd_ne (Nat.ne_of_lt hb')]
      exact (hf b hb).1
  done := by
    intro X hP hw hK hc i pins s σ H E I hf st hg
    subst hP hw hK
    obtain ⟨⟨old, he⟩, hit, hne, hea, hai⟩ := st
    obtain ⟨xs, hq, hx⟩ := hg
    obtain ⟨its, rv, p, hz⟩ := I.tuple hq
    obtain ⟨f0, f1, f2, f3, f4, f5⟩ := hf it (by simp)
    have hl := rv.length
    have hh : X.A.handled = none := I.ok.hd hc
    exact pyNext_enumT_end hh he hit p (by simp; omega) fun h' eb => ⟨rfl, I.turned (t' := s.toks) (fun b o hb q => eb b o hb q) f0 f1 f3 f4 f5⟩
  self := fun A i s Q E st h => let ⟨⟨_, he⟩, _⟩ := st; wpAny_pyIter_enum he h
/-- enumerate(list | tuple) -/
def iEnumA (K : PySem.W.Frag) (ta : TA) : TI := fun σ H R => ta σ H fun vs H1 => ∃ a xs, vs = [.ref a] ∧ ((SqL K H1 a xs ∧ R (Ite K a) H1) ∨ (SqT K H1 a xs ∧ R (IteT K a) H1))
theorem pi_enumA {X : Cx} {e : Expr} {ta : TA} {p pos tpos : Pos} {elts : List Expr} {kk : Nat} (hg : Gl X "enumerate") (hm : X.mg "enumerate" = none) (ha : PA X [e] ta) (hs : starEach [e] X.env = [(false, eval e X.env)] := by rfl) :
    PI X (.Tuple elts kk tpos) (.Call (.Name "enumerate" p) [e] [] pos) (iEnumA X.K ta) := by
  refine ⟨fun pins s σ H R I h => ?_⟩
  refine Call_ (ld_blt I hg hm boot_enumerate (PyProof.Rows.callWith_type1 (thn (ha.run pos pins s σ H _ I h) fun us s1 ⟨vs, H1, I1, r1, q1⟩ => ?_) hs rfl))
  obtain ⟨a, xs, ex, q1⟩ := q1
  subst ex
  cases r1 with
  | cons r rr =>
    cases rr
    cases r
    have fresh : ∀ b, b ∈ [s1.heap.objs.size + 1, s1.heap.objs.size] → FpOk X pins H1 b := fun b hb => by
      have e' : b = s1.heap.objs.size + 1 ∨ b = s1.heap.objs.size := by simpa using hb
      have hle : s1.heap.objs.size ≤ b := by
        rcases e' with z | z
        · rw [z]; exact Nat.le_add_right _ _
        · rw [z]; exact Nat.le_refl _
      exact I1.fpOk hle (I1.hok.fresh hle)
    rcases q1 with ⟨hq, q⟩ | ⟨hq, q⟩
    · obtain ⟨its, rv, p', hz⟩ := I1.list hq
      refine call_enumerate_list p'.isList fun h' he hit hsz hk => wpAny_pyIter_enum he ?_
      have I2 : Inv X pins σ H1 { s1 with heap := h' } := I1.kept (t' := s1.toks) hk
      exact ⟨s1.heap.objs.size + 1, [s1.heap.objs.size + 1, s1.heap.objs.size], _, _, H1, rfl, I2, turn_enum a (s1.heap.objs.size + 1) s1.heap.objs.size, ⟨⟨.none, he⟩, hit, Nat.succ_ne_self _⟩, fresh, q⟩
    · obtain ⟨its, rv, p', hz⟩ := I1.tuple hq
      obtain ⟨o1, ho1, _⟩ := id p'
      have hlt : a < s1.heap.objs.size := Heap.lt_size ho1
      refine call_enumerate_tuple (show s1.heap.IsTuple a its.toArray from p') fun h' he hit hsz hk => wpAny_pyIter_enum he ?_
      have I2 : Inv X pins σ H1 { s1 with heap := h' } := I1.kept (t' := s1.toks) hk
      exact ⟨s1.heap.objs.size + 1, [s1.heap.objs.size + 1, s1.heap.objs.size], _, _, H1, rfl, I2, turn_enumT a (s1.heap.objs.size + 1) s1.heap.objs.size, ⟨⟨.none, he⟩, hit, Nat.succ_ne_self _, Nat.ne_of_gt (Nat.lt_succ_of_lt hlt), Nat.ne_of_lt hlt⟩, fresh, q⟩
theorem walk_enumT {K : PySem.W.Frag} {a : Addr} {xs : List V} : Walk (IteT K a) xs.length (fun H => SqT K H a xs) (YPair (fun i => some (.int (i : Nat))) fun i => xs[i]?) := by
  refine ⟨fun i _ hi q => ⟨xs, xs[i], q, by simp [hi]⟩, fun _ q => ⟨xs, q, Nat.le_refl _⟩, fun i H v H' _ q y => ?_⟩
  obtain ⟨T, x, h1, h2, h3, h4⟩ := y
  exact ⟨T, .int (i : Nat), x, h1, h2, h3, rfl, h4 xs q⟩
end DL

set_option Elab.async false
set_option linter.all false
set_option maxRecDepth 100000
/-! DL6: what is walked, targets, loops, comprehensions, a def's promise by its body. -/
namespace DL
open PySem L2

/-- all that is not one's own is kept -/
def KeepN (C : Ctx) (own : Own) (H H' : Hp) : Prop := ∀ a o, H a = some o → (∀ j, own j ≠ some a) → ¬ C.io a → H' a = some o
def Ctx.AW (C : Ctx) (own : Own) (H : Hp) (a : Addr) : Prop := C.Al own a ∧ ∃ o, H a = some o
def WalkD (C : Ctx) (own : Own) (H1 : Hp) (J : It) (ds : List D) : Prop :=
  ∃ (G : Hp → Prop) (Y : Nat → Hp → V → Hp → Prop), Walk J ds.length G Y ∧ (∀ H, KeepN C own H1 H → G H) ∧
    ∀ i H x H', i < ds.length → KeepN C own H1 H → Y i H x H' → Same H H' ∧ ∃ d, ds[i]? = some d ∧ Rep C.g H' (C.AW own H1) d x
def OutI (C : Ctx) (own : Own) (F : Hp) (σ : L2.St) (e : En) (H : Hp) (r : Res (List D × Rng)) (R : It → Hp → Prop) : Prop :=
  match r with
  | .ok (ds, g') => ∀ H1 J, ExtI C H H1 → SR C own F H1 σ e g' → WalkD C own H1 J ds → R J H1
  | .err x => ∀ H' c dd, ExtI C H H' → (∃ g', SR C own F H' σ e g') → RepX C.g H' (C.Al own) x c dd → C.W c dd σ H'
  | .stuck => False
def tDI (C : Ctx) (f : MA) : TI := fun σ H R => ∃ own F e g, SR C own F H σ e g ∧ OutI C own F σ e H (f e g) R
def DI (C : Ctx) (tg iter : Expr) (f : MA) : Prop := PI C.X tg iter (tDI C f)
theorem pi_imp {X : Cx} {tg x : Expr} {t t' : TI} (h : PI X tg x t) (i : ∀ σ H Q, t' σ H Q → t σ H Q) : PI X tg x t' := ⟨fun pins s σ H Q I q => h.run pins s σ H Q I (i σ H Q q)⟩
theorem pg_imp {X : Cx} {tg : Expr} {t t' : TG} (h : PG X tg t) (i : ∀ v σ H Q, t' v σ H Q → t v σ H Q) : PG X tg t' := ⟨fun pins s σ H v u Q I r q => h.run pins s σ H v u Q I r (i v σ H Q q)⟩
theorem pgs_imp {X : Cx} {tg : List Expr} {t t' : TGs} (h : PGs X tg t) (i : ∀ v σ H Q, t' v σ H Q → t v σ H Q) : PGs X tg t' := ⟨fun pins s σ H v u Q I r q => h.run pins s σ H v u Q I r (i v σ H Q q)⟩

section
variable {C : Ctx} {x a b tg : Expr} {fa fb : ME} {pos : Pos}
theorem KeepN.keep {own : Own} {F H H' : Hp} {σ : L2.St} {e : En} {g : Rng} (S : SR C own F H σ e g) (k : KeepN C own H H') : Keep (C.AW own H) H H' := by
  refine ⟨fun a xs h => ?_, fun a o h1 h2 => k a o h2 h1.1.2.1 h1.1.2.2⟩
  have n : ∀ j, own j ≠ some a := fun j hj => by
    obtain ⟨⟨ys, hy⟩, _⟩ := S.on j a hj
    rcases h with h | ⟨o, h⟩ <;> (rw [hy] at h; cases h)
  have n2 : ¬ C.io a := fun hi => by
    obtain ⟨ob, hy, hm⟩ := S.io a hi
    rcases hm with ⟨ys, rfl⟩ | ⟨ys, rfl⟩ <;> rcases h with h | ⟨o, h⟩ <;> (rw [hy] at h; cases h)
  rcases h with h | ⟨o, h⟩
  · exact .inl (k _ _ h n n2)
  · exact .inr ⟨o, k _ _ h n n2⟩
theorem rep_AW {own : Own} {H : Hp} {d : D} {v : V} (h : Rep C.g H (C.Al own) d v) : Rep C.g H (C.AW own H) d v := h.mono (.same fun _ _ z => z) fun a q z => ⟨q, z⟩
theorem repL_AW {own : Own} {H : Hp} {d : List D} {v : List V} (h : RepL C.g H (C.Al own) d v) : RepL C.g H (C.AW own H) d v := h.mono (.same fun _ _ z => z) fun a q z => ⟨q, z⟩
theorem walkD_list {own : Own} {F H : Hp} {σ : L2.St} {e : En} {g : Rng} {ar : Addr} {l : List D} {vs : List V} (S : SR C own F H σ e g) (ha : C.Al own ar) (h : H ar = some (.lst vs)) (r : RepL C.g H (C.Al own) l vs) : WalkD C own H (Itl C.X.K ar) l := by
  refine ⟨_, _, by rw [r.length]; exact walk_list (K := C.X.K) (a := ar) (xs := vs), fun H' k => SqL.of (k _ _ h ha.2.1 ha.2.2), fun i H' x H'' hi k y => ?_⟩
  obtain ⟨rfl, hx⟩ := y
  obtain ⟨d, e1, e2⟩ := r.getV hx
  exact ⟨fun _ _ z => z, d, e1, (rep_AW e2).mono (k.keep S) fun a q _ => q⟩
theorem walkD_tup {own : Own} {F H : Hp} {σ : L2.St} {e : En} {g : Rng} {ar : Addr} {l : List D} {vs : List V} (S : SR C own F H σ e g) (h : SqT C.X.K H ar vs) (r : RepL C.g H (C.Al own) l vs) : WalkD C own H (Itt C.X.K ar) l := by
  refine ⟨_, _, by rw [r.length]; exact walk_tup (K := C.X.K) (a := ar) (xs := vs), fun H' k => (k.keep S).sqT h, fun i H' x H'' hi k y => ?_⟩
  obtain ⟨rfl, hx⟩ := y
  obtain ⟨d, e1, e2⟩ := r.getV hx
  exact ⟨fun _ _ z => z, d, e1, (rep_AW e2).mono (k.keep S) fun a q _ => q⟩
def strD (z : Str) : List D := z.cps.toList.map fun c => .str ⟨#[c]⟩
theorem walkD_str {own : Own} {H : Hp} {z : Str} : WalkD C own H (Its z) (strD z) := by
  refine ⟨_, _, by unfold strD; rw [List.length_map, Array.length_toList]; exact walk_str (z := z), fun _ _ => trivial, fun i H' x H'' hi k y => ?_⟩
  obtain ⟨rfl, c, hc, rfl⟩ := y
  refine ⟨fun _ _ z => z, .str ⟨#[c]⟩, ?_, .str_ _⟩
  unfold strD
  rw [List.getElem?_map, Array.getElem?_toList, hc]; rfl
/-- a list, a tuple or a text -/
theorem pi_seq {X : Cx} {l : Expr} {tl : TE} (hl : PE X l tl) : PI X tg l (fun σ H R => tl σ H fun x H1 => (∃ a, x = .ref a ∧ (∃ xs, SqL X.K H1 a xs) ∧ R (Itl X.K a) H1) ∨ (∃ a, x = .ref a ∧ (∃ xs, SqT X.K H1 a xs) ∧ R (Itt X.K a) H1) ∨ ∃ z, x = .str z ∧ R (Its z) H1) := by
  refine ⟨fun pins s σ H R I h => ?_⟩
  refine thn (hl.run pins s σ H _ I h) fun v s1 ⟨x, H1, I1, r1, q1⟩ => ?_
  rcases q1 with ⟨a, e, ⟨xs, hq⟩, q⟩ | ⟨a, e, ⟨xs, hq⟩, q⟩ | ⟨z, e, q⟩
  · subst e
    cases r1
    obtain ⟨its, rv, p, hz⟩ := I1.list hq
    refine wpAny_pyIter_list p.isList ?_
    refine ⟨s1.heap.objs.size, [s1.heap.objs.size], _, _, H1, rfl, I1.kept (t' := s1.toks) fun b o e => Heap.get?_push_of_some _ e, turn_list a _, ⟨_, Heap.get?_push_size _ rfl, rfl, rfl⟩, fun b hb => ?_, q⟩
    have e : b = s1.heap.objs.size := by simpa using hb
    subst e
    exact I1.fpOk (Nat.le_refl _) (I1.hok.fresh (Nat.le_refl _))
  · subst e
    cases r1
    obtain ⟨its, rv, p, hz⟩ := I1.tuple hq
    refine wpAny_pyIter_tuple (show s1.heap.IsTuple a its.toArray from p) ?_
    refine ⟨s1.heap.objs.size, [s1.heap.objs.size], _, _, H1, rfl, I1.kept (t' := s1.toks) fun b o e => Heap.get?_push_of_some _ e, turn_tuple a _, ⟨_, Heap.get?_push_size _ rfl, rfl, rfl⟩, fun b hb => ?_, q⟩
    have e : b = s1.heap.objs.size := by simpa using hb
    subst e
    exact I1.fpOk (Nat.le_refl _) (I1.hok.fresh (Nat.le_refl _))
  · subst e
    obtain ⟨t, rfl⟩ := r1
    cases ha : z.cps.all (· < 128)
    · exact wpAny_pyIter_wide ha (pi_one (tk := s1.toks) I1 _ (turn_str _ z t "str_iterator" (.inr rfl)) ⟨_, Heap.get?_push_size _ rfl, rfl, rfl⟩ q)
    · exact wpAny_pyIter_ascii ha (pi_one (tk := s1.toks) I1 _ (turn_str _ z t "str_ascii_iterator" (.inl rfl)) ⟨_, Heap.get?_push_size _ rfl, rfl, rfl⟩ q)
theorem OutI.bindE {own : Own} {F H : Hp} {σ : L2.St} {e : En} {r : Res (D × Rng)} {k : D × Rng → Res (List D × Rng)} {R : It → Hp → Prop} {Q1 : VK} (h : OutI C own F σ e H (r.bind k) R)
    (hq : ∀ d g1 H1 v, ExtI C H H1 → SR C own F H1 σ e g1 → Rep C.g H1 (C.Al own) d v → OutI C own F σ e H1 (k (d, g1)) R → Q1 v H1) : OutE C own F σ e H r Q1 := by
  cases r with
  | ok a =>
    obtain ⟨d, g1⟩ := a
    intro H1 v x S r1
    refine hq d g1 H1 v x S r1 ?_
    have h' : OutI C own F σ e H (k (d, g1)) R := h
    cases hk : k (d, g1) with
    | ok a => rw [hk] at h'; exact fun H2 J x2 => h' H2 J (x.trans x2)
    | err y => rw [hk] at h'; exact fun H2 c dd x2 => h' H2 c dd (x.trans x2)
    | stuck => rw [hk] at h'; exact h'
  | err y => exact h
  | stuck => exact h
theorem OutI.bindA {own : Own} {F H : Hp} {σ : L2.St} {e : En} {r : Res (List D × Rng)} {k : List D × Rng → Res (List D × Rng)} {R : It → Hp → Prop} {Q1 : List V → Hp → Prop} (h : OutI C own F σ e H (r.bind k) R)
    (hq : ∀ d g1 H1 v, ExtI C H H1 → SR C own F H1 σ e g1 → RepL C.g H1 (C.Al own) d v → OutI C own F σ e H1 (k (d, g1)) R → Q1 v H1) : OutA C own F σ e H r Q1 := by
  cases r with
  | ok a =>
    obtain ⟨d, g1⟩ := a
    intro H1 v x S r1
    refine hq d g1 H1 v x S r1 ?_
    have h' : OutI C own F σ e H (k (d, g1)) R := h
    cases hk : k (d, g1) with
    | ok a => rw [hk] at h'; exact fun H2 J x2 => h' H2 J (x.trans x2)
    | err y => rw [hk] at h'; exact fun H2 c dd x2 => h' H2 c dd (x.trans x2)
    | stuck => rw [hk] at h'; exact h'
  | err y => exact h
  | stuck => exact h
def dItems : D → Res (List D)
  | .lst l => .ok l
  | .tup l => .ok l
  | .str z => .ok (strD z)
  | _ => .stuck
def iSeqD (f : ME) : MA := fun e g => (f e g).bind fun p => (dItems p.1).bind fun l => .ok (l, p.2)
theorem di_seq (ha : DE C a fa) : DI C tg a (iSeqD fa) := pi_imp (pi_seq ha) fun σ H R ⟨own, F, e, g, S, o⟩ => ⟨own, F, e, g, S, OutI.bindE o fun d g1 H1 v x1 S1 r1 o1 => by
  cases d <;> first | exact o1.elim | skip
  · rename_i z
    exact .inr (.inr ⟨z, r1.toStr, o1 H1 _ (.refl H1) S1 walkD_str⟩)
  · obtain ⟨ar, vs, rfl, h1, h2⟩ := r1.toTup
    exact .inr (.inl ⟨ar, rfl, ⟨vs, h1⟩, o1 H1 _ (.refl H1) S1 (walkD_tup S1 h1 h2)⟩)
  · obtain ⟨ar, vs, rfl, h0, h1, h2⟩ := r1.toLst
    exact .inl ⟨ar, rfl, ⟨vs, SqL.of h1⟩, o1 H1 _ (.refl H1) S1 (walkD_list S1 h0 h1 h2)⟩⟩
def rangeD (lo : Int) (n : Nat) : List D := (List.range n).map fun (i : Nat) => .int (lo + (i : Int))
theorem walkD_range {own : Own} {H : Hp} {lo : Int} {n : Nat} : WalkD C own H (Itr lo n) (rangeD lo n) := by
  refine ⟨_, _, by unfold rangeD; rw [List.length_map, List.length_range]; exact walk_range (lo := lo) (n := n), fun _ _ => trivial, fun i H' x H'' hi k y => ?_⟩
  obtain ⟨rfl, rfl⟩ := y
  unfold rangeD at hi ⊢
  rw [List.length_map, List.length_range] at hi
  exact ⟨fun _ _ z => z, .int (lo + (i : Int)), by rw [List.getElem?_map, List.getElem?_range hi]; rfl, .int_ _⟩
def iRange (f : MA) : MA := fun e g => (f e g).bind fun p => match p.1 with
  | [.int n] => if -100000 ≤ n ∧ n ≤ 100000 then .ok (rangeD 0 n.toNat, p.2) else .stuck
  | [.int m, .int n] => if -100000 ≤ m ∧ m ≤ 100000 ∧ -100000 ≤ n ∧ n ≤ 100000 then .ok (rangeD m (n - m).toNat, p.2) else .stuck
  | _ => .stuck
theorem di_range1 {fs : MA} {p : Pos} (hg : Gl C.X "range") (hm : C.X.mg "range" = none) (ha : DA C [a] fs) (hs : starEach [a] C.X.env = [(false, eval a C.X.env)] := by rfl) (hl : ∀ e g r, fs e g = .ok r → r.1.length = 1) : DI C tg (.Call (.Name "range" p) [a] [] pos) (iRange fs) :=
  pi_imp (pi_range1 hg hm ha hs) fun σ H R ⟨own, F, e, g, S, o⟩ => by
    unfold iRange at o
    refine ⟨own, F, e, g, S, ?_⟩
    cases hf : fs e g with
    | ok q =>
      obtain ⟨l, g1⟩ := q
      rw [hf] at o
      have h1 := hl e g _ hf
      intro H1 vs x S1 r1
      cases l with
      | nil => cases h1
      | cons d l =>
        cases l with
        | cons => cases h1
        | nil =>
          cases d <;> first | exact o.elim | skip
          rename_i n
          obtain ⟨v, rfl, hv⟩ := one_of r1
          by_cases hn : -100000 ≤ n ∧ n ≤ 100000
          · simp only [Res.bind, hn, and_self, if_true] at o
            exact ⟨n, by rw [hv.toInt], by omega, by omega, o H1 _ x S1 walkD_range⟩
          · simp only [Res.bind, hn, if_false] at o; exact o.elim
    | err y => rw [hf] at o; exact o
    | stuck => rw [hf] at o; exact o
theorem di_range2 {fs : MA} {p : Pos} (hg : Gl C.X "range") (hm : C.X.mg "range" = none) (ha : DA C [a, b] fs) (hs : starEach [a, b] C.X.env = [(false, eval a C.X.env), (false, eval b C.X.env)] := by rfl) (hs2 : starEach [b] C.X.env = [(false, eval b C.X.env)] := by rfl) (hl : ∀ e g r, fs e g = .ok r → r.1.length = 2) : DI C tg (.Call (.Name "range" p) [a, b] [] pos) (iRange fs) :=
  pi_imp (pi_range2 hg hm ha hs hs2) fun σ H R ⟨own, F, e, g, S, o⟩ => by
    unfold iRange at o
    refine ⟨own, F, e, g, S, ?_⟩
    cases hf : fs e g with
    | ok q =>
      obtain ⟨l, g1⟩ := q
      rw [hf] at o
      have h1 := hl e g _ hf
      intro H1 vs x S1 r1
      obtain ⟨d, d', rfl⟩ : ∃ d d', l = [d, d'] := by
        cases l with
        | nil => cases h1
        | cons d l => cases l with
          | nil => cases h1
          | cons d' l => cases l with
            | nil => exact ⟨d, d', rfl⟩
            | cons => cases h1
      · cases d <;> cases d' <;> first | exact o.elim | skip
        rename_i m n
        obtain ⟨v, w, rfl, hv, hw⟩ := two_of r1
        by_cases hn : -100000 ≤ m ∧ m ≤ 100000 ∧ -100000 ≤ n ∧ n ≤ 100000
        · simp only [Res.bind, hn, and_self, if_true] at o
          exact ⟨m, n, by rw [hv.toInt, hw.toInt], ⟨by omega, by omega, by omega, by omega⟩, o H1 _ x S1 walkD_range⟩
        · simp only [Res.bind, hn, if_false] at o; exact o.elim
    | err y => rw [hf] at o; exact o
    | stuck => rw [hf] at o; exact o
/-- zip of two lists, enumerate of a list: new tuples -/
theorem walkD_pair {own : Own} {F H : Hp} {σ : L2.St} {e : En} {g : Rng} {J : It} {n : Nat} {GG : Hp → Prop} {f1 f2 : Nat → Option V} {ds : List D} (S : SR C own F H σ e g) (w : Walk J n GG (YPair f1 f2)) (hn : ds.length = n) (hG : ∀ H', KeepN C own H H' → GG H')
    (hd : ∀ (i : Nat) x y, f1 i = some x → f2 i = some y → ∃ d1 d2, ds[i]? = some (.tup [d1, d2]) ∧ Rep C.g H (C.Al own) d1 x ∧ Rep C.g H (C.Al own) d2 y) : WalkD C own H J ds := by
  refine ⟨GG, _, by rw [hn]; exact w, hG, fun i H' x H'' hi k y => ?_⟩
  obtain ⟨T, u, v, rfl, nT, rfl, e1, e2⟩ := y
  obtain ⟨d1, d2, h1, h2, h3⟩ := hd i u v e1 e2
  have s : Same H' (upd H' T (.tup [u, v])) := fun a o z => by rw [upd_ne (ne_of_none z nT)]; exact z
  have up : ∀ {d : D} {v' : V}, Rep C.g H (C.Al own) d v' → Rep C.g (upd H' T (.tup [u, v])) (C.AW own H) d v' := fun r => ((rep_AW r).mono (k.keep S) fun a q _ => q).mono (.same s) fun a q _ => q
  exact ⟨s, _, h1, .tup_ (.inl (.inl upd_same)) (.cons (up h2) (.cons (up h3) .nil))⟩
def dZip : List D → Res (List D)
  | [.lst l, .lst m] => .ok ((l.zip m).map fun q => .tup [q.1, q.2])
  | [.tup l, .tup m] => .ok ((l.zip m).map fun q => .tup [q.1, q.2])
  | _ => .stuck
theorem walk_zipT {K : PySem.W.Frag} {a b : Addr} {xs ys : List V} {n : Nat} (hn : n = min xs.length ys.length) : Walk (RZ.ItzT K a b) n (fun H => SqT K H a xs ∧ SqT K H b ys) (YPair (fun i => xs[i]?) (fun i => ys[i]?)) := by
  subst hn
  refine ⟨fun i _ hi q => ?_, fun _ q => ⟨xs, ys, q.1, q.2, by omega⟩, fun i H v H' _ q y => ?_⟩
  · have h1 : i < xs.length := by omega
    have h2 : i < ys.length := by omega
    exact ⟨xs, ys, xs[i], ys[i], q.1, q.2, by simp [h1], by simp [h2]⟩
  · obtain ⟨T, x, z, h1, h2, h3, h4, h5⟩ := y
    exact ⟨T, x, z, h1, h2, h3, h4 xs q.1, h5 ys q.2⟩
def dEnum : List D → Res (List D)
  | [.lst l] => .ok (l.mapIdx fun i d => .tup [.int (i : Nat), d])
  | [.tup l] => .ok (l.mapIdx fun i d => .tup [.int (i : Nat), d])
  | _ => .stuck
theorem dZip_ok {l m : List D} (h : dZip l = .ok m) : ∃ a b, (l = [.lst a, .lst b] ∨ l = [.tup a, .tup b]) ∧ m = (a.zip b).map fun q => .tup [q.1, q.2] := by
  unfold dZip at h
  split at h
  · exact ⟨_, _, .inl rfl, (Res.ok.inj h).symm⟩
  · exact ⟨_, _, .inr rfl, (Res.ok.inj h).symm⟩
  · cases h
theorem dEnum_ok {l m : List D} (h : dEnum l = .ok m) : ∃ a, (l = [.lst a] ∨ l = [.tup a]) ∧ m = a.mapIdx fun i d => .tup [.int (i : Nat), d] := by
  unfold dEnum at h
  split at h
  · exact ⟨_, .inl rfl, (Res.ok.inj h).symm⟩
  · exact ⟨_, .inr rfl, (Res.ok.inj h).symm⟩
  · cases h
theorem dZip_nx (l : List D) (x : Exc) : dZip l ≠ .err x := by
  unfold dZip
  split <;> exact fun h => nomatch h
theorem dEnum_nx (l : List D) (x : Exc) : dEnum l ≠ .err x := by
  unfold dEnum
  split <;> exact fun h => nomatch h
def iZipD (f : MA) : MA := fun e g => (f e g).bind fun p => (dZip p.1).bind fun l => .ok (l, p.2)
def iEnumD (f : MA) : MA := fun e g => (f e g).bind fun p => (dEnum p.1).bind fun l => .ok (l, p.2)
theorem zip_tup {l m : List D} {xs ys : List V} {H : Hp} {A : Addr → Prop} (hx : RepL C.g H A l xs) (hy : RepL C.g H A m ys) (i : Nat) (u v : V) (e1 : xs[i]? = some u) (e2 : ys[i]? = some v) : ∃ d1 d2, ((l.zip m).map fun q => D.tup [q.1, q.2])[i]? = some (.tup [d1, d2]) ∧ Rep C.g H A d1 u ∧ Rep C.g H A d2 v := by
  obtain ⟨d1, h1, h2⟩ := hx.getV e1
  obtain ⟨d2, h3, h4⟩ := hy.getV e2
  refine ⟨d1, d2, ?_, h2, h4⟩
  rw [List.getElem?_map, (List.getElem?_zip_eq_some (z := (d1, d2))).mpr ⟨h1, h3⟩]; rfl
theorem di_zip {fs : MA} (h : ∀ {t : TA}, PA C.X [a, b] t → PI C.X tg x (RZ.iZipA C.X.K t)) (ha : DA C [a, b] fs) : DI C tg x (iZipD fs) :=
  pi_imp (h ha) fun σ H R ⟨own, F, e, g, S, o⟩ => ⟨own, F, e, g, S, OutI.bindA o fun l g1 H1 vs x1 S1 r1 o1 => by
    cases hz : dZip l with
    | err y => exact (dZip_nx _ _ hz).elim
    | stuck => simp only [hz, Res.bind] at o1; exact o1.elim
    | ok ds =>
      simp only [hz, Res.bind] at o1
      obtain ⟨l1, m, rfl | rfl, rfl⟩ := dZip_ok hz
      · obtain ⟨v, w, rfl, rv, rw_⟩ := two_of r1
        obtain ⟨a1, xs, rfl, ha0, ha1, ha2⟩ := rv.toLst
        obtain ⟨b1, ys, rfl, hb0, hb1, hb2⟩ := rw_.toLst
        refine ⟨a1, b1, xs, ys, rfl, .inl ⟨SqL.of ha1, SqL.of hb1, o1 H1 _ (.refl H1) S1 ?_⟩⟩
        exact walkD_pair (n := min xs.length ys.length) S1 (walk_zip rfl) (by simp [ha2.length, hb2.length]) (fun H' k => ⟨SqL.of (k _ _ ha1 ha0.2.1 ha0.2.2), SqL.of (k _ _ hb1 hb0.2.1 hb0.2.2)⟩) (zip_tup ha2 hb2)
      · obtain ⟨v, w, rfl, rv, rw_⟩ := two_of r1
        obtain ⟨a1, xs, rfl, ha1, ha2⟩ := rv.toTup
        obtain ⟨b1, ys, rfl, hb1, hb2⟩ := rw_.toTup
        refine ⟨a1, b1, xs, ys, rfl, .inr ⟨ha1, hb1, o1 H1 _ (.refl H1) S1 ?_⟩⟩
        exact walkD_pair (n := min xs.length ys.length) S1 (walk_zipT rfl) (by simp [ha2.length, hb2.length]) (fun H' k => ⟨(k.keep S1).sqT ha1, (k.keep S1).sqT hb1⟩) (zip_tup ha2 hb2)⟩
theorem di_enum {fs : MA} (h : ∀ {t : TA}, PA C.X [a] t → PI C.X tg x (iEnumA C.X.K t)) (ha : DA C [a] fs) : DI C tg x (iEnumD fs) :=
  pi_imp (h ha) fun σ H R ⟨own, F, e, g, S, o⟩ => ⟨own, F, e, g, S, OutI.bindA o fun l g1 H1 vs x1 S1 r1 o1 => by
    cases hz : dEnum l with
    | err y => exact (dEnum_nx _ _ hz).elim
    | stuck => simp only [hz, Res.bind] at o1; exact o1.elim
    | ok ds =>
      simp only [hz, Res.bind] at o1
      obtain ⟨l1, rfl | rfl, rfl⟩ := dEnum_ok hz
      · obtain ⟨v, rfl, rv⟩ := one_of r1
        obtain ⟨a1, xs, rfl, ha0, ha1, ha2⟩ := rv.toLst
        refine ⟨a1, xs, rfl, .inl ⟨SqL.of ha1, o1 H1 _ (.refl H1) S1 ?_⟩⟩
        refine walkD_pair (n := xs.length) S1 walk_enum (by simp [ha2.length]) (fun H' k => SqL.of (k _ _ ha1 ha0.2.1 ha0.2.2)) fun i u v e1 e2 => ?_
        obtain ⟨d2, h3, h4⟩ := ha2.getV e2
        cases e1
        refine ⟨.int (i : Nat), d2, ?_, .int_ _, h4⟩
        rw [List.getElem?_mapIdx, h3]; rfl
      · obtain ⟨v, rfl, rv⟩ := one_of r1
        obtain ⟨a1, xs, rfl, ha1, ha2⟩ := rv.toTup
        refine ⟨a1, xs, rfl, .inr ⟨ha1, o1 H1 _ (.refl H1) S1 ?_⟩⟩
        refine walkD_pair (n := xs.length) S1 walk_enumT (by simp [ha2.length]) (fun H' k => (k.keep S1).sqT ha1) fun i u v e1 e2 => ?_
        obtain ⟨d2, h3, h4⟩ := ha2.getV e2
        cases e1
        refine ⟨.int (i : Nat), d2, ?_, .int_ _, h4⟩
        rw [List.getElem?_mapIdx, h3]; rfl⟩

/-! ### targets -/
abbrev TgF := D → En → Option En
abbrev TgFs := List D → En → Option En
def OutG (C : Ctx) (own : Own) (F : Hp) (H : Hp) (σ : L2.St) (g : Rng) (ts : List Nat) (r : Option En) (Q : L2.St → Hp → Prop) : Prop := match r with
  | some e' => ∀ σ', SR C (offB ts own) F H σ' e' g → (σ'.length = σ.length ∧ ∀ k, k ∉ ts → σ'[k]? = σ[k]?) → Q σ' H
  | none => False
def tDG (C : Ctx) (ts : List Nat) (tf : TgF) : TG := fun v σ H Q => ∃ own F e g d, SR C own F H σ e g ∧ Rep C.g H (C.Al own) d v ∧ OutG C own F H σ g ts (tf d e) Q
def tDGs (C : Ctx) (ts : List Nat) (tf : TgFs) : TGs := fun vs σ H Q => ∃ own F e g ds, SR C own F H σ e g ∧ RepL C.g H (C.Al own) ds vs ∧ OutG C own F H σ g ts (tf ds e) Q
def DG (C : Ctx) (tg : Expr) (ts : List Nat) (tf : TgF) : Prop := PG C.X tg (tDG C ts tf)
def DGs (C : Ctx) (tg : List Expr) (ts : List Nat) (tf : TgFs) : Prop := PGs C.X tg (tDGs C ts tf)
def gNm (i : Nat) : TgF := fun d e => some (e.set i (.sh d))
theorem dg_name {i : Nat} (h : PG C.X tg (gName i)) : DG C tg [i] (gNm i) := pg_imp h fun v σ H Q ⟨own, F, e, g, d, S, r, o⟩ => o _ (S.set r) ⟨by simp, fun k hk => List.getElem?_set_ne (fun z => hk (by simp [z]))⟩
def gsNil : TgFs := fun ds e => match ds with
  | [] => some e
  | _ => none
def gsCons (t : TgF) (u : TgFs) : TgFs := fun ds e => match ds with
  | d :: r => (t d e).bind fun e' => u r e'
  | [] => none
theorem dgs_nil : DGs C [] [] gsNil := pgs_imp pgs_nil fun vs σ H Q ⟨own, F, e, g, ds, S, r, o⟩ => by
  cases ds with
  | nil => exact ⟨r.toNil, o σ (by rw [offB_nil]; exact S) ⟨rfl, fun _ _ => rfl⟩⟩
  | cons => exact o.elim
theorem offB_offB (ts us : List Nat) (own : Own) : offB us (offB ts own) = offB (ts ++ us) own := by
  funext j
  unfold offB
  by_cases h1 : j ∈ ts <;> by_cases h2 : j ∈ us <;> simp [h1, h2]
theorem dgs_cons {e : Expr} {es : List Expr} {ts us : List Nat} {t : TgF} {u : TgFs} (h1 : DG C e ts t) (h2 : DGs C es us u) (hs : (assignEach (e :: es) C.X.env).map (·.2) = assign e C.X.env :: (assignEach es C.X.env).map (·.2) := by rfl) : DGs C (e :: es) (ts ++ us) (gsCons t u) :=
  pgs_imp (pgs_cons h1 h2 hs) fun vs σ H Q ⟨own, F, en, g, ds, S, r, o⟩ => by
    cases ds with
    | nil => exact o.elim
    | cons d ds =>
      obtain ⟨v, rest, rfl, rv, rr⟩ := r.toCons
      have o' : OutG C own F H σ g (ts ++ us) ((t d en).bind fun e' => u ds e') Q := o
      refine ⟨v, rest, rfl, own, F, en, g, d, S, rv, ?_⟩
      cases ht : t d en with
      | none => rw [ht] at o'; exact o'.elim
      | some e1 =>
        rw [ht] at o'
        intro σ1 S1 k1
        refine ⟨_, F, e1, g, ds, S1, rr.mono (.same fun _ _ z => z) fun a q _ => Al_off q, ?_⟩
        have o2 : OutG C own F H σ g (ts ++ us) (u ds e1) Q := o'
        cases hu : u ds e1 with
        | none => rw [hu] at o2; exact o2.elim
        | some e2 =>
          rw [hu] at o2
          intro σ2 S2 k2
          rw [offB_offB] at S2
          exact o2 σ2 S2 ⟨by rw [k2.1, k1.1], fun k hk => by
            rw [List.mem_append] at hk
            rw [k2.2 k fun z => hk (.inr z), k1.2 k fun z => hk (.inl z)]⟩
def gTp (n : Nat) (u : TgFs) : TgF := fun d e => match d with
  | .tup l => if l.length = n then u l e else none
  | _ => none
theorem dg_tup {es : List Expr} {ts : List Nat} {u : TgFs} {n : Nat} (h : ∀ {t : TGs}, PGs C.X es t → PG C.X tg (gTup C.X.K n t)) (hu : DGs C es ts u) : DG C tg ts (gTp n u) := pg_imp (h hu) fun v σ H Q ⟨own, F, e, g, d, S, r, o⟩ => by
  cases d <;> first | exact o.elim | skip
  rename_i l
  obtain ⟨a, vs, rfl, h1, h2⟩ := r.toTup
  have o' : OutG C own F H σ g ts (if l.length = n then u l e else none) Q := o
  by_cases hl : l.length = n
  · rw [if_pos hl] at o'
    exact ⟨a, vs, rfl, h1, by rw [← h2.length]; exact hl, own, F, e, g, l, S, h2, o'⟩
  · rw [if_neg hl] at o'; exact o'.elim
/-- t = e, any target -/
def sAsgG (tf : TgF) (f : ME) : MS := fun e g => (f e g).bind fun p => match tf p.1 e with
  | some e' => .ok (.nx e' p.2)
  | none => .stuck
theorem ds_asgG {st : Stmt} {ts : List Nat} {tf : TgF} (h : ∀ {t : TE} {gt : TG}, PE C.X x t → PG C.X tg gt → PS C.X st (tAsg t gt)) (ha : DE C x fa) (hg : DG C tg ts tf) : DS C st (sAsgG tf fa) := ps_imp (h ha hg) fun D σ H ⟨own, F, e, g, S, o⟩ => ⟨own, F, e, g, S, OutS.bindE o fun d g1 H1 v x1 S1 r1 o1 => ⟨own, F, e, g1, d, S1, r1, by
  cases ht : tf d e with
  | none => simp only [ht] at o1; exact o1.elim
  | some e' => simp only [ht] at o1; exact fun σ' S' _ => o1 _ _ _ S'⟩⟩

/-! ### for -/
def forL (tf : TgF) (fb : MS) : List D → MS
  | [] => fun e g => .ok (.nx e g)
  | d :: ds => fun e g => match tf d e with
    | none => .stuck
    | some e' => (fb e' g).bind fun o => match o with
      | .nx e2 g2 => forL tf fb ds e2 g2
      | .ct e2 g2 => forL tf fb ds e2 g2
      | .bk e2 g2 => .ok (.nx e2 g2)
      | .rt d' g2 => .ok (.rt d' g2)
def sFor (fi : MA) (tf : TgF) (fb : MS) : MS := fun e g => (fi e g).bind fun p => forL tf fb p.1 e p.2
noncomputable def frame (C : Ctx) (own : Own) (H : Hp) : Hp := fun a => open Classical in if (∀ j, own j ≠ some a) ∧ ¬ C.io a then H a else none
theorem frame_some {own : Own} {H : Hp} {a : Addr} {o : HO} : frame C own H a = some o ↔ H a = some o ∧ (∀ j, own j ≠ some a) ∧ ¬ C.io a := by
  unfold frame
  split
  · rename_i h
    constructor
    · exact fun e => ⟨e, h⟩
    · exact fun e => e.1
  · rename_i h
    constructor
    · intro e; cases e
    · exact fun e => (h e.2).elim
theorem SR.framed {own : Own} {F H : Hp} {σ : L2.St} {e : En} {g : Rng} (S : SR C own F H σ e g) : SR C own (frame C own H) H σ e g :=
  { S with fr := fun a o h => frame_some.mp h }
theorem SR.frames {own : Own} {F F' H : Hp} {σ : L2.St} {e : En} {g : Rng} (S : SR C own F' H σ e g) (h : ∀ a o, F a = some o → F' a = some o) : SR C own F H σ e g :=
  { S with fr := fun a o q => S.fr a o (h a o q) }
theorem OutS.bindI {own : Own} {F H : Hp} {σ : L2.St} {e : En} {r : Res (List D × Rng)} {k : List D × Rng → Res Out} {D' : Ends} {R : It → Hp → Prop} (h : OutS C F (r.bind k) D')
    (hq : ∀ ds g1 H1 J, ExtI C H H1 → SR C own F H1 σ e g1 → WalkD C own H1 J ds → OutS C F (k (ds, g1)) D' → R J H1) : OutI C own F σ e H r R := by
  cases r with
  | ok a =>
    obtain ⟨d, g1⟩ := a
    exact fun H1 J x S w => hq d g1 H1 J x S w h
  | err y => exact fun H' c dd x ⟨g', S⟩ r => h _ _ _ _ _ _ _ S r
  | stuck => exact h
theorem OutS.reframe {F F' : Hp} {r : Res Out} {D' : Ends} (h : OutS C F r D') (hF : ∀ a o, F a = some o → F' a = some o) : OutS C F' r D' := by
  cases r with
  | ok o =>
    cases o with
    | nx e g => exact fun own σ H S => h own σ H (S.frames hF)
    | rt d g => exact fun own σ e H v S r => h own σ e H v (S.frames hF) r
    | bk e g => exact fun own σ H S => h own σ H (S.frames hF)
    | ct e g => exact fun own σ H S => h own σ H (S.frames hF)
  | err y => exact fun own σ e g H c dd S r => h own σ e g H c dd (S.frames hF) r
  | stuck => exact h
theorem ds_for {st : Stmt} {iter : Expr} {body : List Stmt} {fi : MA} {ts : List Nat} {tf : TgF} {fb' : MS} (h : ∀ {wi : TI} {gt : TG} {tb : TS}, PI C.X tg iter wi → PG C.X tg gt → PSs C.X body tb → PS C.X st (tFor wi gt tb)) (hi : DI C tg iter fi) (hg : DG C tg ts tf) (hb : DSs C body fb') : DS C st (sFor fi tf fb') :=
  ps_imp (h hi hg hb) fun D' σ H ⟨own, F, e, g, S, o⟩ => ⟨own, F, e, g, S, OutS.bindI o fun ds g1 H1 J x1 S1 w o1 => by
    obtain ⟨GG, Y, wk, hG, hY⟩ := w
    have hF : ∀ a o, F a = some o → frame C own H1 a = some o := fun a o h => frame_some.mpr (S1.fr a o h)
    have kn : ∀ {own' : Own} {H' : Hp} {σ' : L2.St} {e' : En} {g' : Rng}, SR C own' (frame C own H1) H' σ' e' g' → KeepN C own H1 H' := fun S' a o h1 h2 h3 => (S'.fr a o (frame_some.mpr ⟨h1, h2, h3⟩)).1
    refine for_it wk (fun i σ' H' => ∃ own' e' g', SR C own' (frame C own H1) H' σ' e' g' ∧ OutS C F (forL tf fb' (ds.drop i) e' g') D') ⟨own, e, g1, S1.framed, by simpa using o1⟩ (fun i σ' H' _ ⟨own', e', g', S', _⟩ => hG H' (kn S')) ?_ ?_
    · rintro i y σ' H' H'' hi ⟨own', e', g', S', o'⟩ hy
      obtain ⟨same, d, hd, rd⟩ := hY i H' y H'' hi (kn S') hy
      rw [List.drop_eq_getElem_cons hi] at o'
      have ed : ds[i] = d := by rw [List.getElem?_eq_getElem hi] at hd; exact Option.some.inj hd
      rw [ed] at o'
      have S2 := S'.same same
      have rd' : Rep C.g H'' (C.Al own') d y := rd.mono (.same fun _ _ z => z) fun a q _ => by
        obtain ⟨q1, ob, q2⟩ := q
        exact ⟨q1.1, (S2.fr a ob (frame_some.mpr ⟨q2, q1.2⟩)).2⟩
      refine ⟨own', frame C own H1, e', g', d, S2, rd', ?_⟩
      · unfold forL at o'
        cases ht : tf d e' with
        | none => rw [ht] at o'; exact o'.elim
        | some e2 =>
          rw [ht] at o'
          intro σ2 S3 _
          refine ⟨_, frame C own H1, e2, g', S3, ?_⟩
          have o2 : OutS C F ((fb' e2 g').bind _) D' := o'
          cases hb' : fb' e2 g' with
          | ok u =>
            rw [hb'] at o2
            cases u with
            | nx e3 g3 => exact fun own3 σ3 H3 S4 => ⟨own3, e3, g3, S4, o2⟩
            | ct e3 g3 => exact fun own3 σ3 H3 S4 => ⟨own3, e3, g3, S4, o2⟩
            | bk e3 g3 => exact fun own3 σ3 H3 S4 => o2 own3 σ3 H3 (S4.frames hF)
            | rt d3 g3 => exact fun own3 σ3 en H3 v S4 r => o2 own3 σ3 en H3 v (S4.frames hF) r
          | err y => rw [hb'] at o2; exact fun own3 σ3 en gg H3 c dd S4 r => o2 own3 σ3 en gg H3 c dd (S4.frames hF) r
          | stuck => rw [hb'] at o2; exact o2.elim
    · rintro σ' H' ⟨own', e', g', S', o'⟩
      rw [List.drop_length] at o'
      exact o' own' σ' H' (S'.frames hF)⟩

/-! ### while -/
def whileL (ft : MT) (fb : MS) : Nat → MS
  | 0 => fun _ _ => .stuck
  | n + 1 => fun e g => (ft e g).bind fun p => if p.1 = true then (fb e p.2).bind fun o => match o with
      | .nx e2 g2 => whileL ft fb n e2 g2
      | .ct e2 g2 => whileL ft fb n e2 g2
      | .bk e2 g2 => .ok (.nx e2 g2)
      | .rt d' g2 => .ok (.rt d' g2)
    else .ok (.nx e p.2)
def sWhile (fu : En → Nat) (ft : MT) (fb : MS) : MS := fun e g => whileL ft fb (fu e) e g
theorem ds_while {st : Stmt} {c : Expr} {body : List Stmt} {ft : MT} {fb' : MS} (fu : En → Nat) (h : ∀ {tc : TT} {tb : TS}, PT C.X c tc → PSs C.X body tb → PS C.X st (tWhile tc tb)) (hc : DT C c ft) (hb : DSs C body fb') : DS C st (sWhile fu ft fb') :=
  ps_imp (h hc hb) fun D' σ H ⟨own, F, e, g, S, o⟩ => by
    refine ⟨fun m σ' H' => ∃ own' e' g', SR C own' F H' σ' e' g' ∧ OutS C F (whileL ft fb' m e' g') D', ⟨fu e, own, e, g, S, o⟩, ?_⟩
    rintro m σ' H' ⟨own', e', g', S', o'⟩
    cases m with
    | zero => exact o'.elim
    | succ m =>
      refine ⟨own', F, e', g', S', OutS.bindT o' fun d g1 H1 x1 S1 o1 => ?_⟩
      cases d with
      | false => exact o1 _ _ _ S1
      | true =>
        refine ⟨fun σ2 H2 => ∃ own2 e2 g2, SR C own2 F H2 σ2 e2 g2 ∧ OutS C F (whileL ft fb' m e2 g2) D', fun σ2 H2 z => ⟨m, Nat.lt_succ_self m, z⟩, own', F, e', g1, S1, ?_⟩
        have o2 : OutS C F ((fb' e' g1).bind _) D' := o1
        cases hb' : fb' e' g1 with
        | ok u =>
          rw [hb'] at o2
          cases u with
          | nx e3 g3 => exact fun own3 σ3 H3 S4 => ⟨own3, e3, g3, S4, o2⟩
          | ct e3 g3 => exact fun own3 σ3 H3 S4 => ⟨own3, e3, g3, S4, o2⟩
          | bk e3 g3 => exact o2
          | rt d3 g3 => exact o2
        | err y => rw [hb'] at o2; exact o2
        | stuck => rw [hb'] at o2; exact o2.elim
end
end DL

set_option Elab.async false
set_option linter.all false
set_option maxRecDepth 100000
/-! DLs: a star among the targets. -/
namespace DL
open PySem PySem.Spec PySem.W PySem.Calls PyProof.Rows L2
section
variable {prog : Program} {w : World} {A : Around} {E : Value → Shared → Prop} {s : Shared}
/-- what lies behind the unpacking: the middle is a new list -/
def StarQ (s : Shared) (xs : List Value) (n i : Nat) (Q : List Value → Shared → Prop) : Prop :=
  ∀ (G : Heap) (tk : Nat), (∀ b o, s.heap.get? b = some o → G.get? b = some o) →
    Q (xs.take i ++ [.ref G.objs.size] ++ (xs.drop i).drop (xs.length + 1 - n)) { s with heap := G.push { cls := .type "list", data := .seq ((xs.drop i).take (xs.length + 1 - n)).toArray }, toks := tk }
theorem star_rest {xs : List Value} {n i : Nat} {G : Heap} {tk : Nat} {Q : List Value → Shared → Prop} (hi : i < n) (hn : n ≤ xs.length + 1) (hz : xs.length ≤ 1000) (kp : ∀ b o, s.heap.get? b = some o → G.get? b = some o) (h : StarQ s xs n i Q) :
    wpAny (model prog w) A (do
      let rest := xs.drop i
      let after := n - 1 - i
      if rest.length < after then
        rule "unpack.star.too-few"
        raiseError "ValueError" s!"not enough values to unpack (expected at least {n - 1}, got {i + rest.length})"
      let mid := rest.length - after
      return xs.take i ++ [← newList (rest.take mid)] ++ rest.drop mid) Q E { s with heap := G, toks := tk } := by
  have e1 : (xs.drop i).length = xs.length - i := List.length_drop
  have e2 : (xs.drop i).length - (n - 1 - i) = xs.length + 1 - n := by omega
  have e3 : ¬ (xs.drop i).length < n - 1 - i := by omega
  simp only [e3, if_false]
  rw [e2]
  refine wpAny_bind (wpAny_newList (wpAny_pure (h G tk kp)) ?_)
  rw [List.length_take, sizeLine_eq]
  omega
theorem star_tup {q : Addr} {its : Array Value} {n i : Nat} {Q : List Value → Shared → Prop} (hh : A.handled = none) (hq : IsTup s.heap q its) (hi : i < n) (hn : n ≤ its.size + 1) (hz : its.size ≤ 1000) (h : StarQ s its.toList n i Q) :
    wpAny (model prog w) A (unpackItems (.ref q) n (some i)) Q E s := by
  have old : q < s.heap.objs.size := by
    obtain ⟨ob, z, _⟩ := hq
    exact Heap.lt_size z
  have nq : q ≠ s.heap.objs.size := Nat.ne_of_lt old
  unfold unpackItems
  refine wpAny_bind ?_
  unfold notIterableAtAll
  refine wpAny_bind (wpAny_specialOf hq.typeIs slot_tuple_iter.lookup (wpAny_pure ?_))
  simp only [Bool.false_eq_true, if_false]
  refine wpAny_bind (wpAny_holding (iter_tuple hq (wpAny_bind (wpAny_holding (draw_tuple nq i 0 _ _ ⟨_, Heap.get?_push_size _ rfl, rfl, rfl⟩ (hq.push _) (by omega) fun G1 it1 sb1 => ?_)))))
  rw [Nat.zero_add] at it1
  have q1 : IsTup G1 q its := (hq.push _).extBut sb1.extBut nq
  have li : s.heap.objs.size < G1.objs.size := by
    obtain ⟨ob, z, _⟩ := id it1
    exact Heap.lt_size z
  have lq : q < G1.objs.size := by
    obtain ⟨ob, z, _⟩ := id q1
    exact Heap.lt_size z
  rw [List.drop_zero]
  have full : ¬ (its.toList.take i).length < i := by
    rw [List.length_take, Array.length_toList]
    omega
  rw [if_neg full]
  refine wpAny_bind (wpAny_holding (kun_collect (s := { s with heap := G1 }) (T := "tuple_iterator") (.inr (.inr (.inr rfl))) (Walks.tuple (A := A.in1) hh s.heap.objs.size q nq its) (fun j u st => st.1.typeIs) (k := i) (by omega) ⟨it1, q1⟩ li lq (fun G2 tk kp => ?_) (by rw [sizeLine_eq]; omega)))
  refine star_rest (s := s) (xs := its.toList) hi (by rw [Array.length_toList]; exact hn) (by rw [Array.length_toList]; exact hz) (fun b o e => ?_) h
  have nb : b ≠ s.heap.objs.size := Nat.ne_of_lt (Heap.lt_size e)
  exact kp b o nb (sb1.extBut b o nb (Heap.get?_push_of_some _ e))
theorem star_lst {q : Addr} {its : Array Value} {n i : Nat} {Q : List Value → Shared → Prop} (hh : A.handled = none) (hq : s.heap.IsList q its) (hi : i < n) (hn : n ≤ its.size + 1) (hz : its.size ≤ 1000) (h : StarQ s its.toList n i Q) :
    wpAny (model prog w) A (unpackItems (.ref q) n (some i)) Q E s := by
  have old : q < s.heap.objs.size := by
    obtain ⟨ob, z, _⟩ := hq
    exact Heap.lt_size z
  have nq : q ≠ s.heap.objs.size := Nat.ne_of_lt old
  unfold unpackItems
  refine wpAny_bind ?_
  unfold notIterableAtAll
  refine wpAny_bind (wpAny_specialOf hq.typeIs slot_list_iter.lookup (wpAny_pure ?_))
  simp only [Bool.false_eq_true, if_false]
  refine wpAny_bind (wpAny_holding (wpAny_pyIter_list hq (wpAny_bind (wpAny_holding (kun_draw nq i 0 _ _ ⟨_, Heap.get?_push_size _ rfl, rfl, rfl⟩ (hq.push _) (by omega) fun G1 it1 sb1 => ?_)))))
  rw [Nat.zero_add] at it1
  have q1 : G1.IsList q its := (hq.push _).extBut sb1.extBut nq
  have li : s.heap.objs.size < G1.objs.size := by
    obtain ⟨ob, z, _⟩ := id it1
    exact Heap.lt_size z
  have lq : q < G1.objs.size := by
    obtain ⟨ob, z, _⟩ := id q1
    exact Heap.lt_size z
  rw [List.drop_zero]
  have full : ¬ (its.toList.take i).length < i := by
    rw [List.length_take, Array.length_toList]
    omega
  rw [if_neg full]
  refine wpAny_bind (wpAny_holding (kun_collect (s := { s with heap := G1 }) (T := "list_iterator") (.inr (.inr (.inl rfl))) (Walks.list (A := A.in1) hh s.heap.objs.size q nq its) (fun j u st => st.1.typeIs) (k := i) (by omega) ⟨it1, q1⟩ li lq (fun G2 tk kp => ?_) (by rw [sizeLine_eq]; omega)))
  refine star_rest (s := s) (xs := its.toList) hi (by rw [Array.length_toList]; exact hn) (by rw [Array.length_toList]; exact hz) (fun b o e => ?_) h
  have nb : b ≠ s.heap.objs.size := Nat.ne_of_lt (Heap.lt_size e)
  exact kp b o nb (sb1.extBut b o nb (Heap.get?_push_of_some _ e))
end
/-! ### the targets' rules -/
section
variable {X : Cx} {pos : Pos}
/-- a list or tuple of at least n - 1 items; the target at place i gets a new list -/
def gStar (K : PySem.W.Frag) (n i : Nat) (t : TGs) : TG := fun v σ H Q => ∃ a xs, v = .ref a ∧ (SqT K H a xs ∨ SqL K H a xs) ∧ n ≤ xs.length + 1 ∧ xs.length ≤ 1000 ∧
  ∀ p, H p = none → t (xs.take i ++ [.ref p] ++ (xs.drop i).drop (xs.length + 1 - n)) σ (upd H p (.lst ((xs.drop i).take (xs.length + 1 - n)))) Q
theorem pgs_star {e : Expr} {es : List Expr} {t : TG} {u : TGs} {p : Pos} (h1 : PG X e t) (h2 : PGs X es u) (hs : (assignEach (.Starred e p :: es) X.env).map (·.2) = assign e X.env :: (assignEach es X.env).map (·.2) := by rfl) : PGs X (.Starred e p :: es) (gCons t u) := by
  refine ⟨fun pins s σ H vs us Q I r h => ?_⟩
  obtain ⟨v, vr, rfl, h⟩ := h
  cases r with
  | cons r rr =>
    rw [hs]
    exact assignInOrder_cons (thn (h1.run pins s σ H _ _ _ I r h) fun _ s1 ⟨σ1, H1, I1, q1⟩ => h2.run pins s1 σ1 H1 _ _ Q I1 rr q1)
theorem Vals.take' {vs : List V} {us : List Value} (r : Vals vs us) : ∀ n, Vals (vs.take n) (us.take n) := by
  induction r with
  | nil => intro n; simp; exact .nil
  | cons h t ih => intro n; cases n with
    | zero => simp; exact .nil
    | succ n => simp; exact .cons h (ih n)
theorem Vals.drop' {vs : List V} {us : List Value} (r : Vals vs us) : ∀ n, Vals (vs.drop n) (us.drop n) := by
  induction r with
  | nil => intro n; simp; exact .nil
  | cons h t ih => intro n; cases n with
    | zero => simp; exact .cons h t
    | succ n => simp; exact ih n
theorem pg_star {es : List Expr} {k : Nat} {t : TGs} {n i : Nat} (hc : X.calm = true) (h : PGs X es t) (hi : i < n) (hn : (assignEach es X.env).length = n := by rfl) (hst : (assignEach es X.env).findIdx? (·.1) = some i := by rfl) : PG X (.Tuple es k pos) (gStar X.K n i t) := by
  refine ⟨fun pins s σ H v u Q I r hw => ?_⟩
  obtain ⟨a, xs, rfl, hq, hl, hm, hw⟩ := hw
  cases r
  have hh := I.ok.hd hc
  -- behind the items
  have go : ∀ (us : List Value), Vals xs us → StarQ s us n i (fun vs s' => wpAny (model X.prog X.w) X.A (assignInOrder ((assignEach es X.env).map (·.2)) vs) (fun _ s' => ∃ σ' H', Inv X pins σ' H' s' ∧ Q σ' H') X.xe s') := fun us rv G tk kp => by
    have gone : s.heap.get? G.objs.size = none := by
      cases q : s.heap.get? G.objs.size with
      | none => rfl
      | some o => exact absurd (Heap.lt_size (kp _ _ q)) (Nat.lt_irrefl _)
    have fr : H G.objs.size = none := I.hok.gone gone
    have I1 := I.laidN (t' := tk) (a := G.objs.size) (o := .lst ((xs.drop i).take (xs.length + 1 - n))) (h' := G.push { cls := .type "list", data := .seq ((us.drop i).take (us.length + 1 - n)).toArray }) (fun b o e => Heap.get?_push_of_some _ (kp b o e)) gone fr
      ⟨by rw [List.length_take, sizeLine_eq]; omega, (us.drop i).take (us.length + 1 - n), 0, by rw [← rv.length]; exact Vals.take' (Vals.drop' rv i) _, Heap.get?_push_size _ rfl⟩
    refine h.run pins _ σ _ _ _ Q I1 ?_ (hw _ fr)
    rw [← rv.length]
    exact ((Vals.take' rv i).append (.cons (show RelV (.ref G.objs.size) (.ref G.objs.size) from rfl) .nil)).append (Vals.drop' (Vals.drop' rv i) _)
  rw [assign_Tuple]
  refine wpAny_bind (wpAny_standAt ?_)
  unfold unpack
  rw [hn, hst]
  refine wpAny_bind (wpAny_holding ?_)
  rcases hq with hq | hq
  · obtain ⟨its, rv, ht, hz⟩ := I.tuple hq
    have e := rv.length
    exact star_tup hh ht hi (by simp; omega) (by simp; omega) (by simpa using go its rv)
  · obtain ⟨its, rv, ht, hz⟩ := I.list hq
    have e := rv.length
    exact star_lst hh ht.isList hi (by simp; omega) (by simp; omega) (by simpa using go its rv)
end
/-! ### over trees -/
section
variable {C : Ctx} {tg : Expr} {pos : Pos}
theorem dgs_star {e : Expr} {es : List Expr} {ts us : List Nat} {t : TgF} {u : TgFs} {p : Pos} (h1 : DG C e ts t) (h2 : DGs C es us u) (hs : (assignEach (.Starred e p :: es) C.X.env).map (·.2) = assign e C.X.env :: (assignEach es C.X.env).map (·.2) := by rfl) : DGs C (.Starred e p :: es) (ts ++ us) (gsCons t u) :=
  pgs_imp (pgs_star h1 h2 hs) fun vs σ H Q ⟨own, F, en, g, ds, S, r, o⟩ => by
    cases ds with
    | nil => exact o.elim
    | cons d ds =>
      obtain ⟨v, rest, rfl, rv, rr⟩ := r.toCons
      have o' : OutG C own F H σ g (ts ++ us) ((t d en).bind fun e' => u ds e') Q := o
      refine ⟨v, rest, rfl, own, F, en, g, d, S, rv, ?_⟩
      cases ht : t d en with
      | none => rw [ht] at o'; exact o'.elim
      | some e1 =>
        rw [ht] at o'
        intro σ1 S1 k1
        refine ⟨_, F, e1, g, ds, S1, rr.mono (.same fun _ _ z => z) fun a q _ => Al_off q, ?_⟩
        have o2 : OutG C own F H σ g (ts ++ us) (u ds e1) Q := o'
        cases hu : u ds e1 with
        | none => rw [hu] at o2; exact o2.elim
        | some e2 =>
          rw [hu] at o2
          intro σ2 S2 k2
          rw [offB_offB] at S2
          exact o2 σ2 S2 ⟨by rw [k2.1, k1.1], fun k hk => by
            rw [List.mem_append] at hk
            rw [k2.2 k fun z => hk (.inr z), k1.2 k fun z => hk (.inl z)]⟩
def starL (n i : Nat) (l : List D) : List D := l.take i ++ [.lst ((l.drop i).take (l.length + 1 - n))] ++ (l.drop i).drop (l.length + 1 - n)
def gSt (n i : Nat) (u : TgFs) : TgF := fun d e => match d with
  | .tup l => if n ≤ l.length + 1 ∧ l.length ≤ 1000 then u (starL n i l) e else none
  | .lst l => if n ≤ l.length + 1 ∧ l.length ≤ 1000 then u (starL n i l) e else none
  | _ => none
theorem star_rep {own : Own} {F H : Hp} {σ : L2.St} {e : En} {g : Rng} {l : List D} {vs : List V} {n i : Nat} {p : Addr} (S : SR C own F H σ e g) (np : H p = none) (r : RepL C.g H (C.Al own) l vs) :
    RepL C.g (upd H p (.lst ((vs.drop i).take (vs.length + 1 - n)))) (C.Al own) (starL n i l) (vs.take i ++ [.ref p] ++ (vs.drop i).drop (vs.length + 1 - n)) := by
  have s : Same H (upd H p (.lst ((vs.drop i).take (vs.length + 1 - n)))) := fun a o z => by rw [upd_ne (ne_of_none z np)]; exact z
  have r' := r.mono (.same s) fun a q _ => q
  unfold starL
  rw [r.length]
  exact ((r'.take i).append (.cons (.lst_ (S.fresh np) upd_same ((r'.drop i).take _)) .nil)).append ((r'.drop i).drop _)
/-- t, *u = e -/
theorem ds_star {x : Expr} {fa : ME} {st : Stmt} {es : List Expr} {ts : List Nat} {u : TgFs} {n i : Nat} (h : ∀ {t : TE} {gt : TG}, PE C.X x t → PG C.X tg gt → PS C.X st (tAsg t gt)) (hp : ∀ {t : TGs}, PGs C.X es t → PG C.X tg (gStar C.X.K n i t)) (ha : DE C x fa) (hu : DGs C es ts u) : DS C st (sAsgG (gSt n i u) fa) :=
  ps_imp (h ha (hp hu)) fun DD σ H ⟨own, F, e, g, S, o⟩ => ⟨own, F, e, g, S, OutS.bindE o fun d g1 H1 v x1 S1 r1 o1 => by
    have go : ∀ (l : List D) (a : Addr) (vs : List V), v = .ref a → (SqT C.X.K H1 a vs ∨ SqL C.X.K H1 a vs) → RepL C.g H1 (C.Al own) l vs → OutS C F (match (if n ≤ l.length + 1 ∧ l.length ≤ 1000 then u (starL n i l) e else none) with
        | some e' => .ok (.nx e' g1)
        | none => .stuck) DD → gStar C.X.K n i (tDGs C ts u) v σ H1 DD.nx := fun l a vs hv hs hr o' => by
      by_cases hl : n ≤ l.length + 1 ∧ l.length ≤ 1000
      · rw [if_pos hl] at o'
        refine ⟨a, vs, hv, hs, by rw [← hr.length]; exact hl.1, by rw [← hr.length]; exact hl.2, fun p np => ?_⟩
        have s : Same H1 (upd H1 p (.lst ((vs.drop i).take (vs.length + 1 - n)))) := fun b o z => by rw [upd_ne (ne_of_none z np)]; exact z
        refine ⟨own, F, e, g1, starL n i l, S1.same s, star_rep S1 np hr, ?_⟩
        cases hu : u (starL n i l) e with
        | none => rw [hu] at o'; exact o'.elim
        | some e' => rw [hu] at o'; exact fun σ' S' _ => o' _ _ _ S'
      · rw [if_neg hl] at o'; exact o'.elim
    cases d <;> first | exact o1.elim | skip
    · rename_i l
      obtain ⟨a, vs, rfl, h1, h2⟩ := r1.toTup
      exact go l a vs rfl (.inl h1) h2 o1
    · rename_i l
      obtain ⟨a, vs, rfl, h0, h1, h2⟩ := r1.toLst
      exact go l a vs rfl (.inr (SqL.of h1)) h2 o1⟩
end
end DL

set_option Elab.async false
set_option linter.all false
set_option maxRecDepth 100000
/-! DLt: len(set(a list of texts)). -/
namespace DL
open PySem PySem.Spec PySem.W PySem.Calls PyProof.Rows L2
/-- the texts met, each once -/
def metS (σ : List Str) (x : Str) : List Str := if x ∈ σ then σ else σ ++ [x]
def nubS (xs : List Str) : List Str := xs.foldl metS []
theorem nubS_snoc (xs : List Str) (x : Str) : nubS (xs ++ [x]) = metS (nubS xs) x := by simp [nubS]
theorem nubS_le : ∀ (xs : List Str), (nubS xs).length ≤ xs.length := by
  intro xs
  have key : ∀ (l σ : List Str), (l.foldl metS σ).length ≤ σ.length + l.length := by
    intro l
    induction l with
    | nil => intro σ; simp
    | cons a l ih =>
      intro σ
      rw [List.foldl_cons]
      have h1 := ih (metS σ a)
      have h2 : (metS σ a).length ≤ σ.length + 1 := by unfold metS; split <;> simp
      simp only [List.length_cons]
      omega
  have h := key xs []
  rw [List.length_nil, Nat.zero_add] at h
  exact h
abbrev noSet (led : Bool) : Obj := { cls := .type "set", dict := none, data := .set #[] 0 (.fresh 0 0 led) }
section
variable {prog : Program} {w : World} {A : Around} {R : Result → Shared → Prop} {it : Addr} {fp wr : List Addr} {G : Array GenState → Array GenState → Prop} {n : Nat} {P : Nat → Value → Prop} {St : Nat → Shared → Prop}
abbrev Holds1 (prog : Program) (w : World) (T : Addr) (σ : List Str) (h : Heap) : Prop := h.SetOf (PySem.strKind prog w) T (fun q => decide (q ∈ σ)) σ.length
theorem Holds1.kept {T : Addr} {σ : List Str} {h h' : Heap} (x : Holds1 prog w T σ h) (k : ∀ o, h.get? T = some o → h'.get? T = some o) : Holds1 prog w T σ h' := by
  obtain ⟨ob, es, ep, tb, e1, e2⟩ := x
  exact ⟨ob, es, ep, tb, k _ e1, e2⟩
theorem Holds1.step {T : Addr} {σ : List Str} {x : Str} {h : Heap} (y : h.SetOf (PySem.strKind prog w) T (fun q => decide (q ∈ σ) || decide (q = x)) (if decide (x ∈ σ) = true then σ.length else σ.length + 1)) : Holds1 prog w T (metS σ x) h := by
  refine SetOf_congr y (fun q => ?_) ?_
  · unfold metS
    by_cases hx : x ∈ σ
    · rw [if_pos hx]
      by_cases hq : q = x
      · subst hq; simp [hx]
      · simp [hq]
    · rw [if_neg hx]
      simp
  · unfold metS
    by_cases hx : x ∈ σ <;> simp [hx]
theorem set_loop (W : WalksS prog w A.in1 it fp wr G n P St) (T : Addr) (out : T ∉ fp) (xs : List Str) (hn : xs.length = n) (room : n + 1 < scanBound) (val : ∀ i v, P i v → ∃ t, v = .str (xs.getD i Str.empty) t) :
    ∀ (left i : Nat) (s : Shared), i + left = n → St i s → Holds1 prog w T (nubS (xs.take i)) s.heap → (∀ s', Moved (T :: wr) G s s' → Holds1 prog w T (nubS xs) s'.heap → R (.ok (.ret .none)) s') →
      codeAny (model prog w) A (.builtin "set.update.loop" ⟨[.ref T, .ref it], []⟩) R s
  | 0, i, s, hi, st, hT, k => by
    refine codeAny_builtin PyProof.Rows.F.entry_set_update_loop ?_
    rw [Around.under_plainId PyProof.Rows.F.plain_set_update_loop _]
    have ei : i = n := by omega
    subst ei
    refine wpAny_bind (W.done s _ _ st fun s' mv => wpAny_pure (k s' (mv.mono fun b hb => List.mem_cons_of_mem _ hb) ?_))
    rw [List.take_of_length_le (Nat.le_of_eq hn)] at hT
    exact hT.kept fun o e => mv.heap T o (fun z => out (W.sub _ z)) e
  | left + 1, i, s, hi, st, hT, k => by
    have lt : i < n := by omega
    refine codeAny_builtin PyProof.Rows.F.entry_set_update_loop ?_
    rw [Around.under_plainId PyProof.Rows.F.plain_set_update_loop _]
    refine wpAny_bind (W.item i s _ _ lt st fun v s1 hv st1 mv => ?_)
    obtain ⟨t, rfl⟩ := val i v hv
    have hT1 : Holds1 prog w T (nubS (xs.take i)) s1.heap := hT.kept fun o e => mv.heap T o (fun z => out (W.sub _ z)) e
    show wpAny _ A.in1 (holding [Value.str (xs.getD i Str.empty) t] (setAdd T (.str (xs.getD i Str.empty) t)) >>= _) _ _ s1
    refine wpAny_bind (wpAny_holding ?_)
    unfold setAdd
    refine wpAny_holding (wpAny_bind ((PySem.strKind prog w).pyHash (k := xs.getD i Str.empty) (strKind_is _ _ _ _) ?_))
    have few := nubS_le (xs.take i)
    rw [List.length_take] at few
    refine wpAny_setAddHashed_of (knd := PySem.strKind prog w) (s := { s1 with toks := s1.toks + 1 }) (strKind_is _ _ _ _) rfl hT1 (by omega) fun h2 sb new => ?_
    have next : nubS (xs.take (i + 1)) = metS (nubS (xs.take i)) (xs.getD i Str.empty) := by
      have hi2 : i < xs.length := by omega
      rw [List.take_succ, List.getElem?_eq_getElem hi2, Option.toList_some, nubS_snoc, List.getD_eq_getElem?_getD, List.getElem?_eq_getElem hi2, Option.getD_some]
    refine wpAny_pure ⟨plainId_quiet PyProof.Rows.F.plain_set_update_loop _, set_loop W T out xs hn room val left (i + 1) _ (by omega) (W.frame _ s1 _ _ st1 (Nat.le_succ _) fun b hb o e => ?_) (by rw [next]; exact Holds1.step new) fun s2 mv2 done => ?_⟩
    · exact (sb.2 b fun z => out (z ▸ hb)).trans e
    · refine k s2 (Moved.trans W.gtrans ((mv.mono fun b hb => List.mem_cons_of_mem _ hb).then_heap (Nat.le_succ _) fun b o hb e => ?_) mv2) done
      exact (sb.2 b fun z => hb (z ▸ List.mem_cons_self)).trans e
end
section
variable {prog : Program} {w : World} {A : Around} {E : Value → Shared → Prop} {s : Shared}
set_option maxHeartbeats 4000000 in
theorem set_of_texts {q : Addr} {its : Array Value} {xs : List Str} {Q : Value → Shared → Prop} (calm : A.handled = none) (hq : s.heap.IsList q its) (hx : PyProof.Rows.StrsAre its.toList xs) (few : xs.length ≤ 1000)
    (k : ∀ (h2 : Heap) (tk : Nat), Holds1 prog w s.heap.objs.size (nubS xs) h2 → (∀ b o, b < s.heap.objs.size → s.heap.get? b = some o → h2.get? b = some o) → Q (.ref s.heap.objs.size) { s with heap := h2, toks := tk }) :
    wpAny (model prog w) A (call (.type "set") [.ref q]) Q E s := by
  obtain ⟨mc, mt, mro⟩ := PySem.F.called_set.mro
  have m1 := PySem.F.called_set.made
  have m2 := PySem.F.called_set.sub
  refine wpAny_call (codeAny_of_tree (show wpAny _ _ (callAny (.type "set") _) _ _ _ from ?_))
  refine wpAny_pure ⟨Code.quiet_builtin _ (by decide +kernel), codeAny_builtin PySem.F.entry_type_call ?_⟩
  rw [Around.under_plain (weight_type_call_type "set" [.ref q] []) rfl]
  have m3 := PySem.F.called_set.notType
  have m4 := PySem.F.called_set.canCreate
  have m5 := PySem.F.typeCall_set_1 (.ref q)
  repeat (any_goals (first | assumption | wp_step))
  refine codeAny_mono (code_set_new_1 (.ref q) (E := E) (Q₁ := fun ob s1 => ∃ led : Bool, ob = .ref s.heap.objs.size ∧ s1 = { s with heap := s.heap.push (noSet led) }) fun led => ⟨led, rfl, rfl⟩) fun r s1 hr => ?_
  rcases r with e | (ob | _ | _ | _) <;> first | exact hr | exact hr.elim | skip
  obtain ⟨led, rfl, rfl⟩ := hr
  have at0 : (s.heap.push (noSet led)).get? s.heap.objs.size = some (noSet led) := Heap.get?_push_size _ rfl
  have ty0 : Shared.TypeIs { s with heap := s.heap.push (noSet led) } (.ref s.heap.objs.size) "set" := ⟨_, at0, rfl⟩
  have i1 := PySem.F.called_set.init.lookup
  have i2 := PySem.F.called_set.init.bind (.ref s.heap.objs.size)
  repeat (any_goals (first | assumption | wp_step))
  refine codeAny_mono (codeAny_call_builtin (R := wants (fun r s2 => r = .none ∧ ∃ h2 tk, s2 = { s with heap := h2, toks := tk } ∧ Holds1 prog w s.heap.objs.size (nubS xs) h2 ∧
      (∀ b o, b < s.heap.objs.size → s.heap.get? b = some o → h2.get? b = some o)) E) PySem.F.called_set.init.plain PySem.F.entry_set_init (check_set_init_1 ty0 ?_)) fun r2 s2 hr2 => ?_
  · obtain ⟨oq, lq, cq, nq, dq⟩ := hq
    obtain ⟨qcls, qdict, qdata, qslots⟩ := oq
    simp only at cq dq
    subst cq dq
    have lq1 : (s.heap.push (noSet led)).get? q = some { cls := .type "list", dict := qdict, data := .seq its nq, slots := qslots } := Heap.get?_push_of_some _ lq
    have u1 := PySem.F.sub_list_set
    have u2 := PySem.F.sub_list_frozenset
    have u3 : (Value.type "list" == Value.type "dict") = false := by decide
    have isq : (s.heap.push (noSet led)).IsList q its := ⟨_, lq1, rfl, nq, rfl⟩
    unfold Builtin.«set.__init__» noKeywords Builtin.Frozenset.updateFrom
    generalize hPI : pyIter = PI
    wp_walk
    subst hPI
    refine wpAny_pyIter_list isq (wpAny_bind (wpAny_runValue ?_))
    have ltq : q < s.heap.objs.size := Heap.lt_size lq
    have sz1 : (s.heap.push (noSet led)).objs.size = s.heap.objs.size + 1 := Heap.size_push ..
    have calm3 : A.in1.in1.in1.handled = none := by simp [calm]
    have up1 : s.heap.objs.size ≤ (s.heap.push (noSet led)).objs.size := by rw [sz1]; exact Nat.le_succ _
    have neq : q ≠ (s.heap.push (noSet led)).objs.size := Nat.ne_of_lt (Nat.lt_of_lt_of_le ltq up1)
    have out : s.heap.objs.size ∉ [(s.heap.push (noSet led)).objs.size, q] := by
      simp only [List.mem_cons, List.not_mem_nil, or_false, not_or]
      exact ⟨Nat.ne_of_lt (by rw [sz1]; exact Nat.lt_succ_self _), Nat.ne_of_gt ltq⟩
    have len : xs.length = its.size := by rw [← StrsAre.len_eq hx, Array.length_toList]
    refine set_loop ((Walks.list calm3 _ q neq its).toS) s.heap.objs.size out xs len (by unfold scanBound; omega)
      (fun i v hv => SS.strs_at hx i v (by rw [Array.getElem?_toList]; exact hv)) its.size 0 _ (by omega)
      ⟨⟨_, Heap.get?_push_size _ rfl, rfl, rfl⟩, (isq.push _)⟩ ?empty ?full
    case empty =>
      exact SetOf_congr ((setObjOf_fresh (knd := PySem.strKind prog w) led).setOf (Heap.get?_push_of_some _ at0) (by unfold scanBound; omega)) (fun _ => by simp [nubS]) rfl
    case full =>
      intro s3 mv done
      obtain ⟨h3, g3, d3, t3, o3⟩ := s3
      obtain ⟨e1, e2, e3⟩ : g3 = s.gens ∧ d3 = s.drawn ∧ o3 = s.os := ⟨mv.gens, mv.drawn, mv.os⟩
      subst e1 e2 e3
      refine wpAny_pure (wpAny_pure ⟨rfl, h3, t3, rfl, done, fun b o hb e => ?_⟩)
      refine mv.heap b o ?_ (Heap.get?_push_of_some _ (Heap.get?_push_of_some _ e))
      simp only [List.mem_cons, List.not_mem_nil, or_false, not_or]
      exact ⟨Nat.ne_of_lt hb, Nat.ne_of_lt (Nat.lt_of_lt_of_le hb up1)⟩
  · rcases r2 with e | (rv | _ | _ | _) <;> first | exact hr2 | exact hr2.elim | skip
    obtain ⟨rfl, h2, tk, rfl, done, kp⟩ := hr2
    repeat (any_goals (first | assumption | wp_step))
    exact k _ _ done kp
end
section
variable {X : Cx}
def tDistinct (K : PySem.W.Frag) (ta : TE) : TE := fun σ H Q => ta σ H fun x H1 => ∃ (l : Addr) (xs : List Str), x = .ref l ∧ SqL K H1 l (xs.map V.str) ∧ xs.length ≤ 1000 ∧ Q (.int ((nubS xs).length : Nat)) H1
theorem pe_distinct {a : Expr} {ta : TE} {p p2 q pos : Pos} (hg : Gl X "len") (hm : X.mg "len" = none) (hg2 : Gl X "set") (hm2 : X.mg "set" = none) (ha : PE X a ta) (hc : X.calm = true)
    (na : starEach [a] X.env = (false, eval a X.env) :: starEach [] X.env := by rfl) : PE X (.Call (.Name "len" p) [.Call (.Name "set" p2) [a] [] q] [] pos) (tDistinct X.K ta) := by
  refine ⟨fun pins s σ H Q I h => ?_⟩
  refine Call_ (ld_blt I hg hm boot_len (PyProof.Rows.callWith_builtin1 (PyProof.Rows.args_cons ?_ rfl) rfl rfl))
  refine Call_ (ld_blt I hg2 hm2 boot_set (PyProof.Rows.callWith_type1 (PyProof.Rows.args_cons (thn (ha.run pins s σ H _ I h) fun v s1 ⟨x, H1, I1, r1, q1⟩ => PyProof.Rows.args_nil ?_) na) na rfl))
  obtain ⟨l, xs, rfl, hq, few, q1⟩ := q1
  cases r1
  obtain ⟨its, rv, pl, hz⟩ := I1.list hq
  refine set_of_texts (I1.ok.hd hc) pl.isList (by simpa using strsAre_of rv) few fun h2 tk done kp => PyProof.Rows.args_nil ?_
  obtain ⟨ob, es, ep, tb, e1, e2, e3, _, _, _, e4, e5⟩ := done
  have I2 : Inv X pins σ H1 { s1 with heap := h2, toks := tk } := I1.kept fun b o e => kp b o (Heap.lt_size e) e
  have few2 := nubS_le xs
  exact call_len_set e1 e2 e3 e4 (by rw [e5] <;> omega) ⟨.int (nubS xs).length, H1, I2.tok _, ⟨_, by rw [e5]⟩, q1⟩
end
/-! ### over trees -/
def strLs : List D → Option (List Str)
  | [] => some []
  | .str z :: l => (strLs l).map (z :: ·)
  | _ :: _ => none
theorem strLs_rep {g : G} {H : Hp} {A : Addr → Prop} : ∀ {l : List D} {vs : List V} {ys : List Str}, strLs l = some ys → RepL g H A l vs → vs = ys.map V.str
  | [], vs, ys, h, r => by cases h; exact r.toNil
  | d :: l, vs, ys, h, r => by
    cases d <;> first | cases h | skip
    rename_i z
    unfold strLs at h
    cases q : strLs l with
    | none => rw [q] at h; cases h
    | some zs =>
      rw [q] at h; cases h
      obtain ⟨v, vs', rfl, h1, h2⟩ := r.toCons
      rw [h1.toStr, strLs_rep q h2]
      rfl
def dDistinct : D → Res D
  | .lst l => match strLs l with
    | some ys => if ys.length ≤ 1000 then .ok (.int ((nubS ys).length : Nat)) else .stuck
    | none => .stuck
  | _ => .stuck
section
variable {C : Ctx} {a : Expr} {fa : ME} {p p2 q pos : Pos}
theorem dDistinctE (hm : C.X.mg "len" = none) (hm2 : C.X.mg "set" = none) (ha : DE C a fa) (hg : Gl C.X "len" := by rfl) (hg2 : Gl C.X "set" := by rfl) (hc : C.X.calm = true := by rfl)
    (na : starEach [a] C.X.env = (false, eval a C.X.env) :: starEach [] C.X.env := by rfl) : DE C (.Call (.Name "len" p) [.Call (.Name "set" p2) [a] [] q] [] pos) (eUn dDistinct fa) :=
  pe_imp (pe_distinct hg hm hg2 hm2 ha hc na) fun σ H Q ⟨own, F, e, g, S, o⟩ => ⟨own, F, e, g, S, OutE.bindE o fun d g1 H1 v x1 S1 r1 o1 => by
    cases d <;> first | exact o1.elim | skip
    rename_i l
    have o2 : OutE C own F σ e H1 (pureG (match strLs l with
      | some ys => if ys.length ≤ 1000 then .ok (.int ((nubS ys).length : Nat)) else .stuck
      | none => .stuck) g1) Q := o1
    cases hs : strLs l with
    | none => rw [hs] at o2; exact o2.elim
    | some ys =>
      rw [hs] at o2
      by_cases few : ys.length ≤ 1000
      · simp only [few, if_true] at o2
        obtain ⟨ad, vs, rfl, h0, h1, h2⟩ := r1.toLst
        rw [strLs_rep hs h2] at h1
        exact ⟨ad, ys, rfl, SqL.of h1, few, OutE.now S1 o2 (.int_ _)⟩
      · simp only [few, if_false] at o2; exact o2.elim⟩
end
end DL

set_option Elab.async false
set_option linter.all false
set_option maxRecDepth 100000
/-! DL7: comprehensions, a def's promise by its body. -/
namespace DL
open PySem L2

theorem boundL : ∀ vs : List Nat, ∃ n, ∀ v ∈ vs, v < n
  | [] => ⟨0, fun _ h => nomatch h⟩
  | v :: vs => by
    obtain ⟨n, hn⟩ := boundL vs
    exact ⟨max n (v + 1), fun w hw => by
      rcases List.mem_cons.mp hw with e | e
      · omega
      · have := hn w e
        omega⟩
def wipeE (e : En) : List Nat → En
  | [] => e
  | v :: vs => (wipeE e vs).set v .un
theorem wipeE_length (e : En) : ∀ vs : List Nat, (wipeE e vs).length = e.length
  | [] => rfl
  | v :: vs => by unfold wipeE; rw [List.length_set, wipeE_length e vs]
theorem wipeE_get (e : En) (i : Nat) : ∀ {vs : List Nat}, (wipeE e vs)[i]? = if i ∈ vs then (e[i]?).map fun _ => .un else e[i]?
  | [] => by simp [wipeE]
  | v :: vs => by
    unfold wipeE
    have ih := wipeE_get e i (vs := vs)
    by_cases hv : v = i
    · subst hv
      rw [List.getElem?_set]
      by_cases hl : v < (wipeE e vs).length
      · rw [if_pos rfl, if_pos hl]
        rw [wipeE_length] at hl
        simp [hl]
      · rw [if_pos rfl, if_neg hl]
        rw [wipeE_length] at hl
        simp [List.getElem?_eq_none (Nat.le_of_not_lt hl)]
    · rw [List.getElem?_set_ne hv, ih]
      have : (i ∈ v :: vs) ↔ i ∈ vs := by simp [Ne.symm hv]
      simp [this]
theorem wipe_agree {σ σ' : L2.St} {vs : List Nat} (hl : σ'.length = σ.length) (h : ∀ k, k ∉ vs → σ'[k]? = σ[k]?) : wipe σ' vs = wipe σ vs := by
  apply List.ext_getElem?
  intro i
  have key : ∀ (τ : L2.St) (us : List Nat), (wipe τ us)[i]? = if i ∈ us then (τ[i]?).map (fun _ => none) else τ[i]? := by
    intro τ us
    induction us with
    | nil => simp [wipe]
    | cons v us ih =>
      unfold wipe
      by_cases hv : v = i
      · subst hv
        rw [List.getElem?_set]
        by_cases hl : v < (wipe τ us).length
        · rw [if_pos rfl, if_pos hl]
          rw [wipe_length] at hl
          simp [hl]
        · rw [if_pos rfl, if_neg hl]
          rw [wipe_length] at hl
          simp [List.getElem?_eq_none (Nat.le_of_not_lt hl)]
      · rw [List.getElem?_set_ne hv, ih]
        have : (i ∈ v :: us) ↔ i ∈ us := by simp [Ne.symm hv]
        simp [this]
  rw [key, key]
  by_cases hi : i ∈ vs
  · rw [if_pos hi, if_pos hi]
    by_cases hl' : i < σ.length
    · rw [List.getElem?_eq_getElem hl', List.getElem?_eq_getElem (by omega)]; rfl
    · rw [List.getElem?_eq_none (by omega), List.getElem?_eq_none (by omega)]
  · rw [if_neg hi, if_neg hi, h i hi]
theorem wipe_get' (σ : L2.St) {i : Nat} {vs : List Nat} (h : i ∉ vs) : (wipe σ vs)[i]? = σ[i]? := wipe_out h
section
variable {C : Ctx} {x a b tg : Expr} {fa fb : ME} {pos : Pos}
theorem SR.wipe {own : Own} {F H : Hp} {σ : L2.St} {e : En} {g : Rng} {vs : List Nat} (S : SR C own F H σ e g) (hv : ∀ v ∈ vs, own v = none) : SR C own F H (L2.wipe σ vs) (wipeE e vs) g where
  len := by rw [wipe_length, wipeE_length]; exact S.len
  sl := fun i s hs => by
    rw [wipeE_get] at hs
    by_cases hi : i ∈ vs
    · rw [if_pos hi] at hs
      cases he : e[i]? with
      | none => rw [he] at hs; cases hs
      | some s' => rw [he] at hs; cases hs; trivial
    · rw [if_neg hi] at hs
      have := S.sl i s hs
      rw [wipe_get' σ hi]
      exact this
  on := S.on
  ph := fun i p h hl => by
    have hn : i ∉ vs := fun z => by rw [hv i z] at h; cases h
    rw [wipeE_length] at hl
    rw [wipeE_get, if_neg hn]
    exact S.ph i p h hl
  inj := S.inj
  fin := S.fin
  h0 := S.h0
  fr := S.fr
  io := S.io
  tb := S.tb
  ih := S.ih
  rg := S.rg
/-- a list that no slot names is taken in -/
theorem SR.phantom {own : Own} {F H : Hp} {σ : L2.St} {e : En} {g : Rng} {n : Nat} {p : Addr} (S : SR C own F H σ e g) (hn : e.length ≤ n) (ho : own n = none) (np : H p = none) : SR C (fun j => if j = n then some p else own j) F (L2.upd H p (.lst [])) σ e g := by
  have s : Same H (L2.upd H p (.lst [])) := fun a o z => by rw [upd_ne (ne_of_none z np)]; exact z
  have S1 := S.same s
  have fp : C.Al own p := S.fresh np
  have up : ∀ {a : Addr}, C.Al own a → (∃ o, H a = some o) → C.Al (fun j => if j = n then some p else own j) a := fun {a} q ⟨o, z⟩ => ⟨q.1, fun j hj => by
    by_cases h : j = n
    · simp only [h, if_true] at hj
      have : p = a := Option.some.inj hj
      rw [← this, np] at z; cases z
    · simp only [h, if_false] at hj
      exact q.2.1 j hj, q.2.2⟩
  refine ⟨S1.len, fun j s' hs => ?_, fun j q h => ?_, fun j q h hl => ?_, fun j k q h h' => ?_, ?_, S1.h0, fun a o h => ?_, S1.io, S1.tb, S1.ih, S1.rg⟩
  · have z := S.sl j s' hs
    cases s' with
    | un => trivial
    | ex y => exact ExR.mono z (.same s) (fun a fs q => s _ _ q) fun a q z => up q z
    | sh d =>
      obtain ⟨w, e1, e3⟩ := z
      exact ⟨w, e1, e3.mono (.same s) fun a q z => up q z⟩
    | ow l' =>
      obtain ⟨q, ws, e1, e3, e4, e5⟩ := z
      have : j ≠ n := fun z => by rw [z, ho] at e1; cases e1
      exact ⟨q, ws, by simp only [this, if_false]; exact e1, e3, s _ _ e4, e5.mono (.same s) fun a q z => up q z⟩
    | rng => exact z
    | me => exact z
  · by_cases hj : j = n
    · simp only [hj, if_true] at h
      cases h
      refine ⟨⟨[], upd_same⟩, ?_, fp.2.2⟩
      cases hz : C.H0 p with
      | none => rfl
      | some o =>
        have := S.h0 p o hz fp.2.2
        rw [np] at this; cases this
    · simp only [hj, if_false] at h
      exact S1.on j q h
  · have : j ≠ n := by omega
    simp only [this, if_false] at h
    exact S.ph j q h hl
  · by_cases hj : j = n
    · by_cases hk : k = n
      · rw [hj, hk]
      · simp only [hj, if_true] at h
        simp only [hk, if_false] at h'
        cases h
        exact (fp.2.1 k h').elim
    · by_cases hk : k = n
      · simp only [hj, if_false] at h
        simp only [hk, if_true] at h'
        cases h'
        exact (fp.2.1 j h).elim
      · simp only [hj, if_false] at h
        simp only [hk, if_false] at h'
        exact S.inj j k q h h'
  · obtain ⟨m, hm⟩ := S.fin
    exact ⟨max m (n + 1), fun j hj => by
      have : j ≠ n := by omega
      simp only [this, if_false]
      exact hm j (by omega)⟩
  · obtain ⟨h1, h2, h3⟩ := S1.fr a o h
    refine ⟨h1, fun j hj => ?_, h3⟩
    by_cases hji : j = n
    · simp only [hji, if_true] at hj
      have := (S.fr a o h).1
      rw [← Option.some.inj hj, np] at this; cases this
    · simp only [hji, if_false] at hj
      exact h2 j hj

def Ctx.blk (C : Ctx) (s : Shared) (H : Hp) (scope : Scope) (cenv : PySem.Env) (fp : List Addr) : Ctx := { C with X := C.X.blk s H scope cenv fp, W := fun _ _ _ _ => False }
theorem SR.inB {own : Own} {F H : Hp} {σ : L2.St} {e : En} {g : Rng} (S : SR C own F H σ e g) (s : Shared) (Hb : Hp) (scope : Scope) (cenv : PySem.Env) (fp : List Addr) : SR (C.blk s Hb scope cenv fp) own F H σ e g :=
  ⟨S.len, S.sl, S.on, S.ph, S.inj, S.fin, S.h0, S.fr, S.io, S.tb, S.ih, S.rg⟩
def Ctx.nox (C : Ctx) : Ctx := { C with W := fun _ _ _ _ => False }
theorem SR.toN {own : Own} {F H : Hp} {σ : L2.St} {e : En} {g : Rng} (S : SR C own F H σ e g) : SR C.nox own F H σ e g :=
  ⟨S.len, S.sl, S.on, S.ph, S.inj, S.fin, S.h0, S.fr, S.io, S.tb, S.ih, S.rg⟩
theorem SR.ofN {own : Own} {F H : Hp} {σ : L2.St} {e : En} {g : Rng} (S : SR C.nox own F H σ e g) : SR C own F H σ e g :=
  ⟨S.len, S.sl, S.on, S.ph, S.inj, S.fin, S.h0, S.fr, S.io, S.tb, S.ih, S.rg⟩
theorem SR.outB {own : Own} {F H : Hp} {σ : L2.St} {e : En} {g : Rng} {s : Shared} {Hb : Hp} {scope : Scope} {cenv : PySem.Env} {fp : List Addr} (S : SR (C.blk s Hb scope cenv fp) own F H σ e g) : SR C own F H σ e g :=
  ⟨S.len, S.sl, S.on, S.ph, S.inj, S.fin, S.h0, S.fr, S.io, S.tb, S.ih, S.rg⟩
def mTrue : MT := fun _ g => .ok (true, g)
def DTs (C : Ctx) (ifs : List Expr) (f : MT) : Prop := PTs C.X ifs (tDT C f)
theorem dts_nil : DTs C [] mTrue := ⟨fun pins s σ H Q I ⟨own, F, e, g, S, o⟩ => pts_nil.run pins s σ H Q I (o H (.refl H) S)⟩
theorem dts_one {c : Expr} {f : MT} (h : DT C c f) : DTs C [c] f := pts_one h
def lcL (tf : TgF) (ft : MT) (fe : ME) : List D → En → Rng → Res (List D × Rng)
  | [], _, g => .ok ([], g)
  | d :: ds, e, g => match tf d e with
    | none => .stuck
    | some e' => (ft e' g).bind fun p => if p.1 = true then (fe e' p.2).bind fun q => (lcL tf ft fe ds e q.2).bind fun r => .ok (q.1 :: r.1, r.2)
      else lcL tf ft fe ds e p.2
def Slot.isOw : Slot → Bool
  | .ow _ => true
  | _ => false
def noErr {α : Type} : Res α → Res α
  | .ok a => .ok a
  | _ => .stuck
def aLc (vs : List Nat) (fi : MA) (tf : TgF) (ft : MT) (fe : ME) : MA := fun e g => (fi e g).bind fun p =>
  if (vs.all fun v => match e[v]? with | some s => !s.isOw | none => false) = true ∧ p.1.length ≤ 1000 then noErr (lcL tf ft fe p.1 (wipeE e vs) p.2) else .stuck
theorem OutF.bindI {own : Own} {F H : Hp} {σ : L2.St} {e : En} {r : Res (List D × Rng)} {k : List D × Rng → Res (List D × Rng)} {Q : VK} {R : It → Hp → Prop} (h : OutF C own F σ e H (r.bind k) Q)
    (hq : ∀ ds g1 H1 J, ExtI C H H1 → SR C own F H1 σ e g1 → WalkD C own H1 J ds → OutF C own F σ e H1 (k (ds, g1)) Q → R J H1) : OutI C own F σ e H r R := by
  cases r with
  | ok a =>
    obtain ⟨d, g1⟩ := a
    intro H1 J x S w
    refine hq d g1 H1 J x S w ?_
    have h' : OutF C own F σ e H (k (d, g1)) Q := h
    have fb : ∀ {p}, H1 p = none → ¬ C.io p → H p = none := fun {p} n ni => by
      cases q : H p with
      | none => rfl
      | some o => rw [x p o q ni] at n; cases n
    cases hk : k (d, g1) with
    | ok a =>
      rw [hk] at h'
      exact fun H2 p vs x2 n hp S2 rr => h' H2 p vs (x.trans x2) (fb n (fun hi => by obtain ⟨xs, z, _⟩ := S.io p hi; rw [n] at z; cases z)) hp S2 rr
    | err y =>
      rw [hk] at h'
      exact fun H2 c dd x2 => h' H2 c dd (x.trans x2)
    | stuck => rw [hk] at h'; exact h'
  | err y => exact h
  | stuck => exact h
/-- a comprehension: what its parts read, and that the whole gives what the library's reading asks -/
theorem lc_reads {iter elt : Expr} {ifs : List Expr} {scope : Scope} {ts vs : List Nat} {fi : MA} {tf : TgF} {ft : MT} {fe : ME} {R : Prop}
    (h : ∀ {wi : TI} {gt : TG} {tt : TT} {te : TE}, PI C.X tg iter wi → (∀ s H Ca cl fp, PG (C.X.blk s H scope (compEnvC scope cl Ca C.X.env) fp) tg gt) → (∀ s H Ca cl fp, PTs (C.X.blk s H scope (compEnvC scope cl Ca C.X.env) fp) ifs tt) →
      (∀ s H Ca cl fp, PE (C.X.blk s H scope (compEnvC scope cl Ca C.X.env) fp) elt te) → (∀ σ H Q, tDF C (aLc vs fi tf ft fe) σ H Q → tLc wi gt tt te vs σ H Q) → R)
    (hi : DI C tg iter fi) (hsub : ∀ t ∈ ts, t ∈ vs)
    (hg : ∀ s H Ca cl fp, DG (C.blk s H scope (compEnvC scope cl Ca C.X.env) fp) tg ts tf)
    (ht : ∀ s H Ca cl fp, DTs (C.blk s H scope (compEnvC scope cl Ca C.X.env) fp) ifs ft)
    (he : ∀ s H Ca cl fp, DE (C.blk s H scope (compEnvC scope cl Ca C.X.env) fp) elt fe) : R := by
  -- the block's readings do not hang on which block it is
  have gG : ∀ s H Ca cl fp, PG (C.X.blk s H scope (compEnvC scope cl Ca C.X.env) fp) tg (tDG C.nox ts tf) := fun s H Ca cl fp => by
    refine pg_imp (hg s H Ca cl fp) fun v σ Hh Q ⟨own, F, e, g, d, S, r, o⟩ => ⟨own, F, e, g, d, (S.ofN).inB _ _ _ _ _, r, ?_⟩
    unfold OutG at o ⊢
    cases q : tf d e with
    | none => rw [q] at o; exact o.elim
    | some e' => rw [q] at o; exact fun σ' S' k => o σ' (S'.outB).toN k
  have gT : ∀ s H Ca cl fp, PTs (C.X.blk s H scope (compEnvC scope cl Ca C.X.env) fp) ifs (tDT C.nox ft) := fun s H Ca cl fp => by
    refine ⟨fun pins sh σ Hh Q I ⟨own, F, e, g, S, o⟩ => (ht s H Ca cl fp).run pins sh σ Hh Q I ⟨own, F, e, g, (S.ofN).inB _ _ _ _ _, ?_⟩⟩
    unfold OutT at o ⊢
    cases q : ft e g with
    | ok p => rw [q] at o; exact fun H' x S' => o H' x (S'.outB).toN
    | err y => rw [q] at o; exact fun H' c dd x ⟨g', S'⟩ r => o H' c dd x ⟨g', (S'.outB).toN⟩ r
    | stuck => rw [q] at o; exact o
  have gE : ∀ s H Ca cl fp, PE (C.X.blk s H scope (compEnvC scope cl Ca C.X.env) fp) elt (tD C.nox fe) := fun s H Ca cl fp => by
    refine pe_imp (he s H Ca cl fp) fun σ Hh Q ⟨own, F, e, g, S, o⟩ => ⟨own, F, e, g, (S.ofN).inB _ _ _ _ _, ?_⟩
    unfold OutE at o ⊢
    cases q : fe e g with
    | ok p => rw [q] at o; exact fun H' v x S' => o H' v x (S'.outB).toN
    | err y => rw [q] at o; exact fun H' c dd x ⟨g', S'⟩ r => o H' c dd x ⟨g', (S'.outB).toN⟩ r
    | stuck => rw [q] at o; exact o
  refine h hi gG gT gE fun σ H Q ⟨own, F, e, g, S, o⟩ => ⟨own, F, e, g, S, OutF.bindI o fun ds g1 H1 J x1 S1 w o1 => ?_⟩
  by_cases hc : (vs.all fun v => match e[v]? with | some s => !s.isOw | none => false) = true ∧ ds.length ≤ 1000
  rotate_left
  · simp only [hc, if_false] at o1; exact o1.elim
  simp only [hc, and_self, if_true] at o1
  have hov : ∀ v ∈ vs, own v = none := fun v hv => by
    have := List.all_eq_true.mp hc.1 v hv
    cases ho : own v with
    | none => rfl
    | some p =>
      cases he : e[v]? with
      | none => rw [he] at this; cases this
      | some s =>
        obtain ⟨l, hl⟩ := S1.ph v p ho (List.getElem?_eq_some_iff.mp he).1
        rw [hl] at he; cases he
        rw [hl] at this; cases this
  cases hr : lcL tf ft fe ds (wipeE e vs) g1 with
  | err y => rw [hr] at o1; exact o1.elim
  | stuck => rw [hr] at o1; exact o1.elim
  | ok res =>
  obtain ⟨rs, gf⟩ := res
  rw [hr] at o1
  intro Dl hDl
  obtain ⟨m0, hm0⟩ := S1.fin
  -- a place for the list
  obtain ⟨n, hn1, hn2, hn3⟩ : ∃ n, e.length ≤ n ∧ own n = none ∧ n ∉ vs := by
    obtain ⟨m1, hm1⟩ := boundL vs
    exact ⟨max m0 (max e.length m1), by omega, hm0 _ (by omega), fun z => by
      have := hm1 _ z
      omega⟩
  obtain ⟨GG, Y, wk, hG, hY⟩ := w
  have S1w := S1.wipe hov
  have P0 := S1w.phantom (by rw [wipeE_length]; exact hn1) hn2 hDl
  have hts : offB ts (fun j => if j = n then some Dl else own j) = fun j => if j = n then some Dl else own j := by
    funext j
    unfold offB
    split
    · rename_i hj
      have hjv := hsub j hj
      have : j ≠ n := fun z => hn3 (z ▸ hjv)
      simp only [this, if_false]
      exact (hov j hjv).symm
    · rfl
  have AlD : ∀ {a : Addr}, C.Al (fun j => if j = n then some Dl else own j) a → C.Al own a ∧ a ≠ Dl := fun {a} q => ⟨⟨q.1, fun j hj => by
      have := q.2.1 j
      by_cases h : j = n
      · subst h; rw [hn2] at hj; cases hj
      · simp only [h, if_false] at this; exact this hj, q.2.2⟩, fun z => q.2.1 n (by simp [z])⟩
  have AlU : ∀ {a : Addr}, C.Al own a → a ≠ Dl → C.Al (fun j => if j = n then some Dl else own j) a := fun {a} q ne => ⟨q.1, fun j hj => by
      by_cases h : j = n
      · simp only [h, if_true] at hj; exact ne (Option.some.inj hj).symm
      · simp only [h, if_false] at hj; exact q.2.1 j hj, q.2.2⟩
  refine lc_it wk (fun i H' => ∃ acc accD gi rs', H' Dl = some (.lst acc) ∧ SR C (fun j => if j = n then some Dl else own j) F H' (L2.wipe σ vs) (wipeE e vs) gi ∧ RepL C.g H' (C.Al fun j => if j = n then some Dl else own j) accD acc ∧ accD.length ≤ i ∧ ExtI C H1 H' ∧
    lcL tf ft fe (ds.drop i) (wipeE e vs) gi = .ok (rs', gf) ∧ accD ++ rs' = rs) ⟨[], [], g1, rs, upd_same, P0, .nil, Nat.le_refl _, ?_, by simpa using hr, rfl⟩ ?_ ?_ ?_
  · exact fun a ob z _ => by rw [upd_ne (ne_of_none z hDl)]; exact z
  · rintro i H' _ ⟨acc, accD, gi, rs', h1, h2, h3, h4, h5, h6, h7⟩
    exact hG H' fun a ob z1 z2 z3 => h5 a ob z1 z3
  · rintro i y H' H'' hi ⟨acc, accD, gi, rs', h1, h2, h3, h4, h5, h6, h7⟩ hy
    obtain ⟨same, d, hd, rd⟩ := hY i H' y H'' hi (fun a ob z1 z2 z3 => h5 a ob z1 z3) hy
    rw [List.drop_eq_getElem_cons hi] at h6
    have ed : ds[i] = d := by rw [List.getElem?_eq_getElem hi] at hd; exact Option.some.inj hd
    rw [ed] at h6
    have S2 := h2.same same
    have rd' : Rep C.g H'' (C.Al fun j => if j = n then some Dl else own j) d y := rd.mono (.same fun _ _ z => z) fun a q _ => by
      obtain ⟨q1, ob, q2⟩ := q
      exact AlU q1 (ne_of_none q2 hDl)
    rw [lcL] at h6
    cases htf : tf d (wipeE e vs) with
    | none => rw [htf] at h6; cases h6
    | some e2 =>
    rw [htf] at h6
    refine ⟨_, F, wipeE e vs, gi, d, S2.toN, rd', ?_⟩
    show OutG _ _ _ _ _ _ _ (tf d (wipeE e vs)) _
    rw [htf]
    intro σ2 S3 hk
    rw [hts] at S3
    have hw : L2.wipe σ2 vs = L2.wipe σ vs := wipe_agree (by rw [hk.1, wipe_length]) fun k hkv => by rw [hk.2 k fun z => hkv (hsub k z), wipe_get' σ hkv]
    refine ⟨hw, _, F, e2, gi, S3, ?_⟩
    have h6' : ((ft e2 gi).bind fun p => if p.1 = true then (fe e2 p.2).bind fun q => (lcL tf ft fe (ds.drop (i + 1)) (wipeE e vs) q.2).bind fun r => .ok (q.1 :: r.1, r.2) else lcL tf ft fe (ds.drop (i + 1)) (wipeE e vs) p.2) = .ok (rs', gf) := h6
    cases hft : ft e2 gi with
    | err y => rw [hft] at h6'; cases h6'
    | stuck => rw [hft] at h6'; cases h6'
    | ok p =>
    obtain ⟨bb, g2⟩ := p
    rw [hft] at h6'
    intro H3 x3 S4
    have x3' : ExtI C H'' H3 := x3
    have xx : ExtI C H1 H3 := (h5.trans (.of same)).trans x3'
    have hDn : ¬ C.io Dl := (S2.on n Dl (by simp)).2.2
    have h13 : H3 Dl = some (.lst acc) := x3' _ _ (same _ _ h1) hDn
    cases bb with
    | false =>
      have h6'' : lcL tf ft fe (ds.drop (i + 1)) (wipeE e vs) g2 = .ok (rs', gf) := h6'
      exact ⟨acc, accD, g2, rs', h13, S2.back x3' S4.ofN, S2.repL x3' (h3.mono (.same same) fun a q _ => q), by omega, xx, h6'', h7⟩
    | true =>
      refine ⟨_, F, e2, g2, S4, ?_⟩
      have h6'' : ((fe e2 g2).bind fun q => (lcL tf ft fe (ds.drop (i + 1)) (wipeE e vs) q.2).bind fun r => .ok (q.1 :: r.1, r.2)) = .ok (rs', gf) := h6'
      cases hfe : fe e2 g2 with
      | err y => rw [hfe] at h6''; cases h6''
      | stuck => rw [hfe] at h6''; cases h6''
      | ok q =>
      obtain ⟨r, g3⟩ := q
      rw [hfe] at h6''
      have h8 : ((lcL tf ft fe (ds.drop (i + 1)) (wipeE e vs) g3).bind fun r' => .ok (r :: r'.1, r'.2)) = .ok (rs', gf) := h6''
      cases hl : lcL tf ft fe (ds.drop (i + 1)) (wipeE e vs) g3 with
      | err y => rw [hl] at h8; cases h8
      | stuck => rw [hl] at h8; cases h8
      | ok q2 =>
      obtain ⟨rs2, gf2⟩ := q2
      rw [hl] at h8
      have e8 : (r :: rs2, gf2) = (rs', gf) := Res.ok.inj h8
      obtain ⟨rfl, rfl⟩ := Prod.mk.inj e8
      intro H4 yv x4 S5 ry
      have x4' : ExtI C H3 H4 := x4
      have x24 : ExtI C H'' H4 := x3'.trans x4'
      have h14 : H4 Dl = some (.lst acc) := x4' _ _ h13 hDn
      have SB : SR C (fun j => if j = n then some Dl else own j) F H4 (L2.wipe σ vs) (wipeE e vs) g3 := S2.back x24 S5.ofN
      have rA : RepL C.g H4 (C.Al fun j => if j = n then some Dl else own j) (accD ++ [r]) (acc ++ [yv]) := (S2.repL x24 (h3.mono (.same same) fun a q _ => q)).append (.cons ry .nil)
      have nl : ¬ n < (wipeE e vs).length := by rw [wipeE_length]; omega
      have SU := SB.upd (i := n) (p := Dl) (l := accD ++ [r]) (if_pos rfl) (fun z => (nl z).elim) rA
      have eset : (wipeE e vs).set n (.ow (accD ++ [r])) = wipeE e vs := List.set_eq_of_length_le (by rw [wipeE_length]; exact hn1)
      rw [eset] at SU
      refine ⟨acc, h14, lt_line (by rw [← h3.length]; omega), acc ++ [yv], accD ++ [r], g3, rs2, upd_same, SU, SB.updRep (i := n) (p := Dl) (if_pos rfl) rA, by rw [List.length_append]; exact Nat.succ_le_succ h4, fun a ob z1 z2 => ?_, hl, by rw [List.append_assoc]; exact h7⟩
      have : a ≠ Dl := ne_of_none z1 hDl
      rw [upd_ne this]
      exact (xx.trans x4') a ob z1 z2
  · rintro H' ⟨acc, accD, gi, rs', h1, h2, h3, h4, h5, h6, h7⟩
    rw [List.drop_length, lcL] at h6
    have e6 : (([] : List D), gi) = (rs', gf) := Res.ok.inj h6
    obtain ⟨rfl, rfl⟩ := Prod.mk.inj e6
    rw [List.append_nil] at h7
    subst h7
    exact o1 H' Dl acc h5 hDl h1 (S1.back h5 h2) (h3.mono (.same fun _ _ z => z) fun a q _ => AlD q)
end
end DL

set_option Elab.async false
set_option linter.all false
set_option maxRecDepth 100000
/-! DL8: a def's promise by its body; what draws. -/
namespace DL
open PySem PySem.Spec PyProof.Rows L2

def g0 : Rng := ⟨[], 0, 0, 0⟩
def env0 (n : Nat) (ds : List D) : En := ds.map .sh ++ List.replicate (n - ds.length) .un
def resD : Res Out → Res D
  | .ok (.rt d _) => .ok d
  | .ok (.nx _ _) => .ok .non
  | .err x => .err x
  | _ => .stuck
def runD (n k : Nat) (b : MS) (ds : List D) : Res D := if ds.length = k then resD (b (env0 n ds) g0) else .stuck
def envG (n : Nat) (ds : List D) : En := .rng :: (ds.map .sh ++ List.replicate (n - (ds.length + 1)) .un)
def resG : Res Out → Res (D × Rng)
  | .ok (.rt d g) => .ok (d, g)
  | .ok (.nx _ g) => .ok (.non, g)
  | _ => .stuck
def runG (n k : Nat) (b : MS) (ds : List D) (g : Rng) : Res (D × Rng) := if ds.length + 1 = k then resG (b (envG n ds) g) else .stuck
section
variable {P : Program} {w : World} {K : PySem.W.Frag} {mg : Str → Option Value} {base : Heap} {cm : Str → Option Addr} {tb : List (Addr × Str)}
abbrev ctxD (P : Program) (w : World) (K : PySem.W.Frag) (mg : Str → Option Value) (base : Heap) (cm : Str → Option Addr) (tb : List (Addr × Str)) (N : List Str) (qual : Str) (scope : Scope) (f : Addr) (cdv : Value) (A : Around) (outer : List PySem.Env) (s : Shared) (H : Hp) (E : XK) (A0 : Addr → Prop) (rg : Option (Addr × Addr)) : Ctx :=
  { X := cxOf (L2N.CX P w) P w K mg base N qual scope f cdv A outer s H E, cm := cm, tb := tb, W := fun c dd _ H' => E c dd H', H0 := H, A := A0, rg := rg }
theorem start_get {N : List Str} {vs : List V} {i : Nat} {v : V} (h : vs[i]? = some v) : (L2.start N vs)[i]? = some (some v) := by
  unfold L2.start
  have hi := (List.getElem?_eq_some_iff.mp h).1
  rw [List.getElem?_append_left (by simpa using hi), List.getElem?_map, h]; rfl
theorem env0_sl {C : Ctx} {own : Own} {N : List Str} {vs : List V} {ds : List D} (r : RepL C.g C.H0 (C.Al own) ds vs) {i : Nat} {s : Slot} (hs : (env0 N.length ds)[i]? = some s) : SlR C own C.H0 ((L2.start N vs)[i]?) i s := by
  unfold env0 at hs
  by_cases hi : i < ds.length
  · rw [List.getElem?_append_left (by simpa using hi), List.getElem?_map, List.getElem?_eq_getElem hi] at hs
    cases hs
    obtain ⟨v, h1, h2⟩ := r.get (List.getElem?_eq_getElem hi)
    exact ⟨v, start_get h1, h2⟩
  · rw [List.getElem?_append_right (by simp; omega)] at hs
    rw [List.getElem?_replicate] at hs
    split at hs
    · cases hs; trivial
    · cases hs
theorem sr_start {C : Ctx} {N : List Str} {vs : List V} {ds : List D} (hl : vs.length ≤ N.length) (r : RepL C.g C.H0 C.A ds vs) (t : Tabs C.tb C.H0) (hA : ∀ a, C.A a → ∀ p ∈ C.tb, p.1 ≠ a) (hr : C.rg = none) : SR C (fun _ => none) (fun _ => none) C.H0 (L2.start N vs) (env0 N.length ds) g0 := by
  have nio : ∀ a, C.io a → ∃ p ∈ C.tb, p.1 = a := fun a h => h.elim (fun ⟨c, z⟩ => by rw [hr] at z; cases z) id
  have r' : RepL C.g C.H0 (C.Al fun _ => none) ds vs := r.mono (.same fun _ _ z => z) fun a q _ => ⟨.inl q, fun j h => (by cases h), fun h => by
    obtain ⟨p, hp, z⟩ := nio a h
    exact hA a q p hp z⟩
  have at0 : ∀ a, C.io a → ∃ o, C.H0 a = some o ∧ MutO o := fun a h => by
    obtain ⟨p, hp, rfl⟩ := nio a h
    exact t.at_ hp
  refine ⟨?_, fun i s hs => env0_sl r' hs, fun i p h => ?_, fun i p h => ?_, fun i j p h => ?_, ⟨0, fun _ _ => rfl⟩, fun a o h _ => h, fun a o h => ?_, at0, t, fun a h => ?_, fun r' c z => ?_⟩
  · unfold L2.start env0; simp [r.length]
  · cases h
  · cases h
  · cases h
  · cases h
  · obtain ⟨o, e, _⟩ := at0 a h
    rw [e]; exact fun z => nomatch z
  · rw [hr] at z; cases z
theorem pre_le {N ps : List Str} {sc : Scope} (S : FnScope N ps sc) : ps.length ≤ N.length := by
  have h := congrArg List.length S.pre
  rw [List.length_take] at h
  omega
theorem fn_spD {x qual : Str} {st : Stmt} {dvs : List V} {kws : List (Str × V)} {f : Addr} {fd : FuncData} {N ps : List Str} {k : Nat} (F : FunD K x qual (defArgs st) (defBody st) (defScope st) dvs kws f fd) (S : FnScope N ps (defScope st)) (b : MS)
    (body : ∀ (cdv : Value) (A : Around) (outer : List PySem.Env) (s : Shared) (H : Hp) (E : XK) (A0 : Addr → Prop), Room k (A.deeper (envOfC qual (defScope st) s.heap.objs.size f cdv)) → DSs (ctxD P w K mg base cm tb N qual (defScope st) f cdv A outer s H E A0 none) (defBody st) b) :
    FnOk P w K mg base (L2N.CX P w) (k + 1) f fd ps (spD ⟨K, cm, tb⟩ (runD N.length ps.length b)) := by
  have len : ∀ vs H Q E, spD ⟨K, cm, tb⟩ (runD N.length ps.length b) vs H Q E → vs.length = ps.length := fun vs H Q E ⟨A0, ds, r, _, _, o⟩ => by
    unfold runD at o
    split at o
    · rename_i h; rw [← r.length]; exact h
    · exact o.elim
  refine F.ok S len fun cdv A outer s H vs Q E hr h => ?_
  have hlen := len vs H Q E h
  obtain ⟨A0, ds, r, tt, hA, o⟩ := id h
  refine ⟨_, body cdv A outer s H E A0 hr, ?_⟩
  have hd : ds.length = ps.length := by rw [r.length, hlen]
  unfold runD at o
  rw [if_pos hd] at o
  let C : Ctx := ctxD P w K mg base cm tb N qual (defScope st) f cdv A outer s H E A0 none
  have S0 : SR C (fun _ => none) (fun _ => none) H (L2.start N vs) (env0 N.length ds) g0 := sr_start (C := C) (by rw [hlen]; exact pre_le S) r tt hA rfl
  have nio : ∀ a, C.io a → ∃ p ∈ tb, p.1 = a := fun a h => h.elim (fun ⟨c, z⟩ => by cases z) id
  have kp : ∀ {own' : Own} {F' H' : Hp} {σ' : L2.St} {e' : En} {g' : Rng}, SR C own' F' H' σ' e' g' → SameT tb H H' := fun S' a ob z n => S'.h0 a ob z fun hi => by
    obtain ⟨p, hp, e⟩ := nio a hi
    exact n p hp e
  refine ⟨fun _ => none, fun _ => none, env0 N.length ds, g0, S0, ?_⟩
  show OutS C _ (b (env0 N.length ds) g0) _
  cases hb : b (env0 N.length ds) g0 with
  | ok u =>
    rw [hb] at o
    cases u with
    | nx e g => exact fun own' σ' H' S' => o H' .non (kp S') S'.tb .non_
    | rt d g => exact fun own' σ' e' H' v S' r' => o H' v (kp S') S'.tb (r'.mono (.same fun _ _ z => z) fun a q _ => q.1)
    | bk e g => exact o.elim
    | ct e g => exact o.elim
  | err y =>
    rw [hb] at o
    exact fun own' σ' e' g' H' c dd S' ⟨Ca, d, ws, h1, h2, h3, h4, h5, h6⟩ => o H' c dd (kp S') S'.tb ⟨Ca, d, ws, h1, h2, h3, h4, h5, h6.mono (.same fun _ _ z => z) fun a q _ => q.1⟩
  | stuck => rw [hb] at o; exact o.elim
/-- a def that draws -/
theorem fn_spG {x qual : Str} {st : Stmt} {dvs : List V} {kws : List (Str × V)} {f : Addr} {fd : FuncData} {N ps : List Str} {k : Nat} (F : FunD K x qual (defArgs st) (defBody st) (defScope st) dvs kws f fd) (S : FnScope N ps (defScope st)) (b : MS)
    (body : ∀ (cdv : Value) (A : Around) (outer : List PySem.Env) (s : Shared) (H : Hp) (E : XK) (A0 : Addr → Prop) (r c : Addr), Room k (A.deeper (envOfC qual (defScope st) s.heap.objs.size f cdv)) → DSs (ctxD P w K mg base cm tb N qual (defScope st) f cdv A outer s H E A0 (some (r, c))) (defBody st) b) :
    FnOk P w K mg base (L2N.CX P w) (k + 1) f fd ps (spG ⟨K, cm, tb⟩ (runG N.length ps.length b)) := by
  have len : ∀ vs H Q E, spG ⟨K, cm, tb⟩ (runG N.length ps.length b) vs H Q E → vs.length = ps.length := fun vs H Q E ⟨A0, ds, r, c, gg, ws, e, R, rp, hA, _, _, o⟩ => by
    unfold runG at o
    by_cases h : ds.length + 1 = ps.length
    · subst e; rw [List.length_cons, ← rp.length]; exact h
    · rw [if_neg h] at o; exact o.elim
  refine F.ok S len fun cdv A outer s H vs Q E hr h => ?_
  have hlen := len vs H Q E h
  obtain ⟨A0, ds, r, c, gg, ws, rfl, R, rp, hA, tt, hT, o⟩ := id h
  refine ⟨_, body cdv A outer s H E A0 r c hr, ?_⟩
  have hd : ds.length + 1 = ps.length := by rw [← hlen, List.length_cons, rp.length]
  unfold runG at o
  rw [if_pos hd] at o
  let C : Ctx := ctxD P w K mg base cm tb N qual (defScope st) f cdv A outer s H E A0 (some (r, c))
  have io : ∀ a, C.io a → a = r ∨ ∃ p ∈ tb, p.1 = a := fun a h => h.elim (fun ⟨c', z⟩ => by cases z; exact .inl rfl) .inr
  have ntL : ∀ {a : Addr} {xs : List V}, H a = some (.lst xs) → ∀ p ∈ tb, p.1 ≠ a := fun {a xs} h p hp z => by
    obtain ⟨ps, h1, _⟩ := tt p hp
    rw [z, h] at h1; cases h1
  have at0 : ∀ a, C.io a → ∃ o, H a = some o ∧ MutO o := fun a h => by
    rcases io a h with rfl | ⟨p, hp, rfl⟩
    · exact ⟨_, R.at_, .inl ⟨_, rfl⟩⟩
    · exact tt.at_ hp
  have rp' : RepL C.g C.H0 (C.Al fun _ => none) ds ws := rp.mono (.same fun _ _ z => z) fun a q _ => ⟨.inl q, fun j h => (by cases h), fun hi => by
    rcases io a hi with z | ⟨p, hp, z⟩
    · exact hA (z ▸ q)
    · exact hT a q p hp z⟩
  have hn : ps.length ≤ N.length := pre_le S
  have S0 : SR C (fun _ => none) (fun _ => none) H (L2.start N (.ref r :: ws)) (envG N.length ds) gg := by
    refine ⟨?_, fun i s hs => ?_, fun i p h => ?_, fun i p h => ?_, fun i j p h => ?_, ⟨0, fun _ _ => rfl⟩, fun a o h _ => h, fun a o h => ?_, at0, tt, fun a h => ?_, fun r' c' z => ?_⟩
    · unfold L2.start envG; simp [rp.length]
    · unfold envG at hs
      cases i with
      | zero => cases hs; exact ⟨r, c, rfl, start_get rfl⟩
      | succ i =>
        rw [List.getElem?_cons_succ] at hs
        by_cases hi : i < ds.length
        · rw [List.getElem?_append_left (by simpa using hi), List.getElem?_map, List.getElem?_eq_getElem hi] at hs
          cases hs
          obtain ⟨v, h1, h2⟩ := rp'.get (List.getElem?_eq_getElem hi)
          exact ⟨v, start_get (by rw [List.getElem?_cons_succ]; exact h1), h2⟩
        · rw [List.getElem?_append_right (by simp; omega), List.getElem?_replicate] at hs
          split at hs
          · cases hs; trivial
          · cases hs
    · cases h
    · cases h
    · cases h
    · cases h
    · obtain ⟨o, e, _⟩ := at0 a h
      show H a ≠ none
      rw [e]; exact fun z => nomatch z
    · cases z
      exact ⟨.inl ⟨c, rfl⟩, fun hi => (io c hi).elim R.ne fun ⟨p, hp, z⟩ => ntL R.ce p hp z, (by show H c ≠ none; rw [R.ce]; exact fun z => nomatch z), R⟩
  refine ⟨fun _ => none, fun _ => none, envG N.length ds, gg, S0, ?_⟩
  show OutS C _ (b (envG N.length ds) gg) _
  have kp : ∀ {own' : Own} {F' H' : Hp} {σ' : L2.St} {e' : En} {g' : Rng}, SR C own' F' H' σ' e' g' → ∀ a o, H a = some o → a ≠ r → (∀ p ∈ tb, p.1 ≠ a) → H' a = some o := fun S' a ob z n n2 => S'.h0 a ob z fun hi => (io a hi).elim n fun ⟨p, hp, z⟩ => n2 p hp z
  cases hb : b (envG N.length ds) gg with
  | ok u =>
    rw [hb] at o
    cases u with
    | nx e g => exact fun own' σ' H' S' => o H' .non (kp S') S'.tb (S'.rg r c rfl).2.2.2 .non_
    | rt d g => exact fun own' σ' e' H' v S' r' => o H' v (kp S') S'.tb (S'.rg r c rfl).2.2.2 (r'.mono (.same fun _ _ z => z) fun a q _ => q.1)
    | bk e g => exact o.elim
    | ct e g => exact o.elim
  | err y => rw [hb] at o; exact o.elim
  | stuck => rw [hb] at o; exact o.elim
end

/-! ### the drawing's list read and written -/
def rgI (i : Nat) (k : Int) : ME := fun e g => match e[i]? with
  | some .rng => if k = 1 then .ok (.int g.i, g) else if k = 2 then .ok (.int g.b, g) else if k = 3 then .ok (.int g.s, g) else .stuck
  | _ => .stuck
def rgLen (i : Nat) : ME := fun e g => match e[i]? with
  | some .rng => .ok (.int g.cells.length, g)
  | _ => .stuck
def rgCell (i : Nat) : ME := fun e g => match e[i]? with
  | some .rng => match atI g.cells g.i with
    | some z => .ok (.int z, g)
    | none => .stuck
  | _ => .stuck
def rgSet (i : Nat) (k : Int) (f : ME) : MS := fun e g => match e[i]? with
  | some .rng => (f e g).bind fun p => match p.1 with
    | .int v => if k = 1 ∧ 0 ≤ v then .ok (.nx e { p.2 with i := v }) else if k = 2 ∧ 0 ≤ v then .ok (.nx e { p.2 with b := v }) else if k = 3 ∧ 0 ≤ v ∧ v < 2147483563 then .ok (.nx e { p.2 with s := v }) else .stuck
    | _ => .stuck
  | _ => .stuck
section
variable {C : Ctx} {x a b tg : Expr} {fa fb : ME} {pos : Pos} {st : Stmt}
theorem rng_slot {own : Own} {F H : Hp} {σ : L2.St} {e : En} {g : Rng} {i : Nat} {α : Type} {f : Res α} {Z : Res α → Prop} (S : SR C own F H σ e g) (z : ¬ Z .stuck) (o : Z (match e[i]? with | some .rng => f | _ => .stuck)) : e[i]? = some .rng ∧ Z f := by
  cases hs : e[i]? with
  | none => rw [hs] at o; exact (z o).elim
  | some s =>
    rw [hs] at o
    cases s with
    | rng => exact ⟨rfl, o⟩
    | un => exact (z o).elim
    | ex y => exact (z o).elim
    | sh d => exact (z o).elim
    | ow l => exact (z o).elim
    | me => exact (z o).elim
theorem atI_val {xs : List V} {i : Int} {j : Nat} {v : V} (e : i = (j : Int)) (h : xs[j]? = some v) : atI xs i = some v := by rw [e]; exact atI_nat h
/-- r[k], k written -/
theorem de_rgI {i : Nat} {k : Int} {j : Nat} {p1 p2 : Pos} {y : Str} (hv : PE C.X (.Name y p1) (tVar i)) : DE C (.Subscript (.Name y p1) (.Constant (.int k) j p2) pos) (rgI i k) :=
  pe_imp (pe_ix ix_list hv pe_int (fun _ _ => rfl)) fun σ H Q ⟨own, F, e, g, S, o⟩ => by
    unfold rgI at o
    obtain ⟨hs, o⟩ := rng_slot (Z := fun z => OutE C own F σ e H z Q) S (fun z => z) o
    obtain ⟨r, c, h1, h2⟩ := S.sl i _ hs
    obtain ⟨_, _, _, R⟩ := S.rg r c h1
    by_cases k1 : k = 1
    · simp only [k1, if_true] at o
      exact ⟨.ref r, h2, r, _, k, .int g.i, rfl, rfl, SqL.of R.at_, atI_val (j := 1) k1 rfl, OutE.now S o (.int_ _)⟩
    by_cases k2 : k = 2
    · simp [k2] at o
      exact ⟨.ref r, h2, r, _, k, .int g.b, rfl, rfl, SqL.of R.at_, atI_val (j := 2) k2 rfl, OutE.now S o (.int_ _)⟩
    by_cases k3 : k = 3
    · simp [k3] at o
      exact ⟨.ref r, h2, r, _, k, .int g.s, rfl, rfl, SqL.of R.at_, atI_val (j := 3) k3 rfl, OutE.now S o (.int_ _)⟩
    · simp only [k1, k2, k3, if_false] at o; exact o.elim
theorem de_rgLen {i : Nat} {y : Str} {j : Nat} {p1 p2 p3 : Pos} (hv : PE C.X (.Name y p1) (tVar i)) (h : ∀ {t : TA}, PA C.X [.Subscript (.Name y p1) (.Constant (.int 0) j p2) p3] t → PE C.X x (tCB (fun xs H Q => ∃ x n, xs = [x] ∧ LenV C.X.K x H n ∧ Q (.int n) H) t)) : DE C x (rgLen i) :=
  pe_imp (h (pa_cons (pe_ix ix_list hv pe_int (fun _ _ => rfl)) pa_nil)) fun σ H Q ⟨own, F, e, g, S, o⟩ => by
    unfold rgLen at o
    obtain ⟨hs, o⟩ := rng_slot (Z := fun z => OutE C own F σ e H z Q) S (fun z => z) o
    obtain ⟨r, c, h1, h2⟩ := S.sl i _ hs
    obtain ⟨_, _, _, R⟩ := S.rg r c h1
    exact ⟨.ref r, h2, r, _, 0, .ref c, rfl, rfl, SqL.of R.at_, atI_val (j := 0) rfl rfl, .ref c, g.cells.length, rfl, .inl ⟨_, SqL.of R.ce, by simp⟩, OutE.now S o (.int_ _)⟩
theorem de_rgCell {i : Nat} {y y' : Str} {j j' : Nat} {p1 p2 p3 q1 q2 q3 : Pos} (hv : PE C.X (.Name y p1) (tVar i)) (hv' : PE C.X (.Name y' q1) (tVar i)) : DE C (.Subscript (.Subscript (.Name y p1) (.Constant (.int 0) j p2) p3) (.Subscript (.Name y' q1) (.Constant (.int 1) j' q2) q3) pos) (rgCell i) :=
  pe_imp (pe_ix ix_list (pe_ix ix_list hv pe_int (fun _ _ => rfl)) (pe_ix ix_list hv' pe_int (fun _ _ => rfl)) (fun _ _ => rfl)) fun σ H Q ⟨own, F, e, g, S, o⟩ => by
    unfold rgCell at o
    obtain ⟨hs, o⟩ := rng_slot (Z := fun z => OutE C own F σ e H z Q) S (fun z => z) o
    obtain ⟨r, c, h1, h2⟩ := S.sl i _ hs
    obtain ⟨_, _, _, R⟩ := S.rg r c h1
    cases ha : atI g.cells g.i with
    | none => simp only [ha] at o; exact o.elim
    | some z =>
      simp only [ha] at o
      refine ⟨.ref r, h2, r, _, 0, .ref c, rfl, rfl, SqL.of R.at_, atI_val (j := 0) rfl rfl, .ref r, h2, r, _, 1, .int g.i, rfl, rfl, SqL.of R.at_, atI_val (j := 1) rfl rfl, c, _, g.i, .int z, rfl, rfl, SqL.of R.ce, ?_, OutE.now S o (.int_ _)⟩
      unfold atI at ha ⊢
      rw [List.length_map]
      cases hx : ixN g.cells.length g.i with
      | none => rw [hx] at ha; cases ha
      | some q =>
        rw [hx] at ha
        simp only [Option.bind_some] at ha ⊢
        rw [List.getElem?_map, ha]; rfl
theorem sr_rng {own : Own} {F H : Hp} {σ : L2.St} {e : En} {g g' : Rng} {r c : Addr} (S : SR C own F H σ e g) (h1 : C.rg = some (r, c)) (hc : g'.cells = g.cells) (i0 : 0 ≤ g'.i) (b0 : 0 ≤ g'.b) (s0 : 0 ≤ g'.s) (s1 : g'.s < 2147483563) : SR C own F (L2.upd H r (.lst [.ref c, .int g'.i, .int g'.b, .int g'.s])) σ e g' := by
  obtain ⟨hi, hc', hc0, R⟩ := S.rg r c h1
  have x : ExtI C H (L2.upd H r (.lst [.ref c, .int g'.i, .int g'.b, .int g'.s])) := fun a o z n => by
    have ne : a ≠ r := fun q => n (by rw [q]; exact hi)
    rw [upd_ne ne]; exact z
  have tt : Tabs C.tb (L2.upd H r (.lst [.ref c, .int g'.i, .int g'.b, .int g'.s])) := S.tb.upd R.at_
  refine S.ext x (fun a z => ?_) tt fun r' c'' z => ?_
  · rcases z with ⟨c'', z⟩ | ⟨p, hp, rfl⟩
    · rw [h1] at z; cases z; exact ⟨_, upd_same, .inl ⟨_, rfl⟩⟩
    · exact tt.at_ hp
  · rw [h1] at z; cases z
    exact ⟨R.ne, upd_same, by rw [upd_ne R.ne, hc]; exact R.ce, i0, b0, s0, s1, by rw [hc]; exact R.cl⟩
/-- r[k] = v -/
theorem ds_rgSet {i : Nat} {k : Int} {ko : Expr} (h : ∀ {t tk : TE}, PE C.X x t → PE C.X ko tk → PS C.X st (tAsg t (gSub (tVar i) tk rSetL))) (hk : PE C.X ko (tC (.int k))) (ha : DE C x fa) : DS C st (rgSet i k fa) :=
  ps_imp (h ha hk) fun D σ H ⟨own, F, e, g, S, o⟩ => by
    unfold rgSet at o
    obtain ⟨hs, o⟩ := rng_slot (Z := fun z => OutS C F z D) S (fun z => z) o
    obtain ⟨r, c, h1, h2⟩ := S.sl i _ hs
    refine ⟨own, F, e, g, S, OutS.bindE o fun d g1 H1 v x1 S1 r1 o1 => ⟨.ref r, h2, ?_⟩⟩
    obtain ⟨_, _, _, R⟩ := S1.rg r c h1
    cases d <;> first | exact o1.elim | skip
    rename_i z
    rw [r1.toInt]
    show rSetL (.ref r) (.int k) (.int z) H1 _
    by_cases k1 : k = 1 ∧ 0 ≤ z
    · simp only [k1, and_self, if_true] at o1
      exact ⟨r, _, k, 1, rfl, rfl, R.at_, by rw [k1.1]; rfl, o1 _ _ _ (sr_rng (g' := { g1 with i := z }) S1 h1 rfl k1.2 R.b0 R.s0 R.s1)⟩
    by_cases k2 : k = 2 ∧ 0 ≤ z
    · simp [k2] at o1
      exact ⟨r, _, k, 2, rfl, rfl, R.at_, by rw [k2.1]; rfl, o1 _ _ _ (sr_rng (g' := { g1 with b := z }) S1 h1 rfl R.i0 k2.2 R.s0 R.s1)⟩
    by_cases k3 : k = 3 ∧ 0 ≤ z ∧ z < 2147483563
    · simp [k3] at o1
      exact ⟨r, _, k, 3, rfl, rfl, R.at_, by rw [k3.1]; rfl, o1 _ _ _ (sr_rng (g' := { g1 with s := z }) S1 h1 rfl R.i0 R.b0 k3.2.1 k3.2.2)⟩
    · simp only [k1, k2, k3, if_false] at o1; exact o1.elim
end
end DL

set_option Elab.async false
set_option linter.all false
set_option maxRecDepth 100000
/-! DL9: the rules in short, as the printed walks name them. -/
namespace DL
open PySem PySem.Spec PyProof.Rows L2
section
variable {C : Ctx} {x a b c tg : Expr} {fa fb fc : ME} {pos p : Pos} {st : Stmt} {n : Str} {es : List Expr} {fs : MA}
theorem dV (i : Nat) {y : Str} (hN : C.X.N[i]? = some y := by rfl) (hv : Vis C.X.env.scope y := by first | exact Or.inl rfl | exact Or.inr (Or.inl rfl) | exact Or.inr (Or.inr rfl)) (hd : (y == ("__debug__" : Str)) = false := by decide)
    (hcd : (y == ("__classdict__" : Str)) = false := by decide) : DE C (.Name y pos) (eVar i) := de_var (pe_var hN hv hd hcd)
/-- a module's constant -/
theorem dGlob (d : D) {v : V} {u : Value} (hm : C.X.mg n = some u) (rv : RelV v u) (r : ∀ H A, Rep C.g H A d v) (hg : Gl C.X n := by rfl) (hd : (n == ("__debug__" : Str)) = false := by decide) : DE C (.Name n pos) (eC d) := de_const (pe_glob hg hm rv hd) r
theorem nx_add (x y : D) (z : Exc) : dAdd x y ≠ .err z := by
  unfold dAdd; split <;> (try split) <;> exact fun h => nomatch h
theorem nx_mul (x y : D) (z : Exc) : dMul x y ≠ .err z := by
  unfold dMul; split <;> (try split) <;> exact fun h => nomatch h
theorem nx_II {k : Int → Int → Res D} (h : ∀ i j z, k i j ≠ .err z) (x y : D) (z : Exc) : dII k x y ≠ .err z := by
  unfold dII; split
  · exact h _ _ _
  · exact fun h => nomatch h
theorem nx_eq (x y : D) (z : Exc) : dEq x y ≠ .err z := by unfold dEq; split <;> exact fun h => nomatch h
theorem nx_ne (x y : D) (z : Exc) : dNe x y ≠ .err z := by unfold dNe; split <;> exact fun h => nomatch h
theorem nx_isN (x y : D) (z : Exc) : dIsN x y ≠ .err z := by unfold dIsN; split <;> exact fun h => nomatch h
theorem nx_notN (x y : D) (z : Exc) : dNotN x y ≠ .err z := by unfold dNotN; split <;> exact fun h => nomatch h
theorem nx_in (x y : D) (z : Exc) : dInS x y ≠ .err z := by
  unfold dInS dIn; split
  · exact fun h => nomatch h
  · split <;> exact fun h => nomatch h
theorem nx_notIn (x y : D) (z : Exc) : dNotInS x y ≠ .err z := by
  unfold dNotInS dNotIn; split
  · exact fun h => nomatch h
  · split <;> exact fun h => nomatch h
theorem nx_ix (x y : D) (z : Exc) : dIx x y ≠ .err z := by
  unfold dIx; split
  · split <;> exact fun h => nomatch h
  · split <;> exact fun h => nomatch h
  · split
    · split <;> exact fun h => nomatch h
    · exact fun h => nomatch h
  · exact fun h => nomatch h
theorem nx_if {c : Prop} [Decidable c] {d : D} (z : Exc) : (if c then Res.ok d else .stuck) ≠ .err z := by split <;> exact fun h => nomatch h
theorem nx_ok {d : D} (z : Exc) : (Res.ok d) ≠ .err z := fun h => nomatch h
variable (ha : DE C a fa) (hb : DE C b fb) (hc : DE C c fc)
include ha hb
theorem dAddE : DE C (.BinOp a .Add b pos) (eOp dAdd fa fb) := de_bin or_addD opD_add nx_add ha hb
theorem dSubE : DE C (.BinOp a .Sub b pos) (eOp dSub fa fb) := de_bin op_sub opD_sub (nx_II fun _ _ => nx_ok) ha hb
theorem dMulE : DE C (.BinOp a .Mult b pos) (eOp dMul fa fb) := de_bin or_mulD opD_mul nx_mul ha hb
theorem dFDivE : DE C (.BinOp a .FloorDiv b pos) (eOp dFDiv fa fb) := de_bin op_fdivW opD_fdiv (nx_II fun _ _ => nx_if) ha hb
theorem dModE : DE C (.BinOp a .Mod b pos) (eOp dMod fa fb) := de_bin op_mod opD_mod (nx_II fun _ _ => nx_if) ha hb
theorem dPowE : DE C (.BinOp a .Pow b pos) (eOp dPow fa fb) := de_bin op_pow opD_pow (nx_II fun _ _ => nx_if) ha hb
theorem dLtE : DE C (.Compare a [.Lt] [b] pos) (eOp dLtI fa fb) := de_cmp op_lt opD_lt (nx_II fun _ _ => nx_ok) ha hb (nomark _)
theorem dLeE : DE C (.Compare a [.LtE] [b] pos) (eOp dLe fa fb) := de_cmp op_le opD_le (nx_II fun _ _ => nx_ok) ha hb (nomark _)
theorem dGtE : DE C (.Compare a [.Gt] [b] pos) (eOp dGt fa fb) := de_cmp op_gt opD_gt (nx_II fun _ _ => nx_ok) ha hb (nomark _)
theorem dGeE : DE C (.Compare a [.GtE] [b] pos) (eOp dGe fa fb) := de_cmp op_ge opD_ge (nx_II fun _ _ => nx_ok) ha hb (nomark _)
theorem dEqE (hu : C.X.A.units + 65 < cLine) : DE C (.Compare a [.Eq] [b] pos) (eOp dEq fa fb) := de_cmp (op_eqD (Nat.lt_of_succ_lt hu)) opD_eq nx_eq ha hb (nomark _)
theorem dNeE (hu : C.X.A.units + 65 < cLine) : DE C (.Compare a [.NotEq] [b] pos) (eOp dNe fa fb) := de_cmp (op_neD (Nat.lt_of_succ_lt hu)) opD_ne nx_ne ha hb (nomark _)
theorem dIsNE : DE C (.Compare a [.Is] [b] pos) (eOp dIsN fa fb) := de_cmp op_isN opD_isN nx_isN ha hb (nomark _)
theorem dNotNE : DE C (.Compare a [.IsNot] [b] pos) (eOp dNotN fa fb) := de_cmp op_notN opD_notN nx_notN ha hb (nomark _)
theorem dInE (hu : C.X.A.units + 65 < cLine) (hm : behindInMarks .In b = false := by rfl) : DE C (.Compare a [.In] [b] pos) (eOp dInS fa fb) := de_cmp (or_inA hu) opD_in nx_in ha hb hm
theorem dNotInE (hu : C.X.A.units + 65 < cLine) (hm : behindInMarks .NotIn b = false := by rfl) : DE C (.Compare a [.NotIn] [b] pos) (eOp dNotInS fa fb) := de_cmp (or_notInA hu) opD_notIn nx_notIn ha hb hm
theorem dLtT : DT C (.Compare a [.Lt] [b] pos) (eTest (eOp dLtI fa fb)) := dt_cmp op_lt opD_lt (nx_II fun _ _ => nx_ok) ha hb (nomark _)
theorem dLeT : DT C (.Compare a [.LtE] [b] pos) (eTest (eOp dLe fa fb)) := dt_cmp op_le opD_le (nx_II fun _ _ => nx_ok) ha hb (nomark _)
theorem dGtT : DT C (.Compare a [.Gt] [b] pos) (eTest (eOp dGt fa fb)) := dt_cmp op_gt opD_gt (nx_II fun _ _ => nx_ok) ha hb (nomark _)
theorem dGeT : DT C (.Compare a [.GtE] [b] pos) (eTest (eOp dGe fa fb)) := dt_cmp op_ge opD_ge (nx_II fun _ _ => nx_ok) ha hb (nomark _)
theorem dEqT (hu : C.X.A.units + 65 < cLine) : DT C (.Compare a [.Eq] [b] pos) (eTest (eOp dEq fa fb)) := dt_cmp (op_eqD (Nat.lt_of_succ_lt hu)) opD_eq nx_eq ha hb (nomark _)
theorem dNeT (hu : C.X.A.units + 65 < cLine) : DT C (.Compare a [.NotEq] [b] pos) (eTest (eOp dNe fa fb)) := dt_cmp (op_neD (Nat.lt_of_succ_lt hu)) opD_ne nx_ne ha hb (nomark _)
theorem dIsNT : DT C (.Compare a [.Is] [b] pos) (eTest (eOp dIsN fa fb)) := dt_cmp op_isN opD_isN nx_isN ha hb (nomark _)
theorem dNotNT : DT C (.Compare a [.IsNot] [b] pos) (eTest (eOp dNotN fa fb)) := dt_cmp op_notN opD_notN nx_notN ha hb (nomark _)
theorem dInT (hu : C.X.A.units + 65 < cLine) (hm : behindInMarks .In b = false := by rfl) : DT C (.Compare a [.In] [b] pos) (eTest (eOp dInS fa fb)) := dt_cmp (or_inA hu) opD_in nx_in ha hb hm
theorem dNotInT (hu : C.X.A.units + 65 < cLine) (hm : behindInMarks .NotIn b = false := by rfl) : DT C (.Compare a [.NotIn] [b] pos) (eTest (eOp dNotInS fa fb)) := dt_cmp (or_notInA hu) opD_notIn nx_notIn ha hb hm
theorem dIxE (hs : PlainIx b := by exact fun _ _ => rfl) : DE C (.Subscript a b pos) (eOp dIx fa fb) := de_ix ix_seq opD_ix nx_ix ha hb hs
end
theorem nx_neg (x : D) (z : Exc) : dNeg x ≠ .err z := by unfold dNeg; split <;> exact fun h => nomatch h
section
theorem dNegE {C : Ctx} {a : Expr} {fa : ME} {pos : Pos} (ha : DE C a fa) : DE C (.UnaryOp .USub a pos) (eUn dNeg fa) := de_un un_neg unD_neg nx_neg ha (fun h => pe_un un_neg h)
end
section
variable {C : Ctx} {x a b c tg : Expr} {fa fb fc : ME} {pos p : Pos} {st : Stmt} {n : Str} {es : List Expr} {fs : MA}
/-- a < b < c, ints -/
def eChain (r r' : Int → Int → Bool) (fa fb fc : ME) : ME := fun e g => (fa e g).bind fun p => (fb e p.2).bind fun q => match p.1, q.1 with
  | .int i, .int j => if r i j = true then (fc e q.2).bind fun s => match s.1 with
      | .int k => .ok (.bl (r' j k), s.2)
      | _ => .stuck
    else .ok (.bl false, q.2)
  | _, _ => .stuck
theorem tD_chain {r r' : Int → Int → Bool} : ∀ σ H Q, tD C (eChain r r' fa fb fc) σ H Q → tChain (rI0 fun i j => .bl (r i j)) (rI0 fun i j => .bl (r' i j)) (tD C fa) (tD C fb) (tD C fc) σ H Q :=
  fun σ H Q ⟨own, F, e, g, S, o⟩ => ⟨own, F, e, g, S, OutE.bindE o fun x g1 H1 v x1 S1 r1 o1 => ⟨own, F, e, g1, S1, OutE.bindE o1 fun y g2 H2 w x2 S2 r2 o2 => by
    cases x <;> cases y <;> first | exact o2.elim | skip
    rename_i i j
    refine ⟨i, j, r1.toInt, r2.toInt, r i j, rfl, ?_⟩
    have o3 : OutE C own F σ e H2 (if r i j = true then (fc e g2).bind fun s => match s.1 with
      | .int k => .ok (.bl (r' j k), s.2)
      | _ => .stuck
      else .ok (.bl false, g2)) Q := o2
    by_cases h : r i j = true
    · rw [if_pos h] at o3 ⊢
      refine ⟨own, F, e, g2, S2, OutE.bindE o3 fun z g3 H3 u x3 S3 r3 o4 => ?_⟩
      cases z <;> first | exact o4.elim | skip
      exact ⟨j, _, r2.toInt, r3.toInt, OutE.now S3 o4 (.bl_ _)⟩
    · rw [if_neg h] at o3 ⊢
      exact OutE.now S2 o3 (.bl_ _)⟩⟩
theorem dLeLeT (ha : DE C a fa) (hb : DE C b fb) (hc : DE C c fc) (hm : lastMarks [.LtE, .LtE] [b, c] = false := by with_unfolding_all rfl) : DT C (.Compare a [.LtE, .LtE] [b, c] pos) (eTest (eChain (fun i j => decide (i ≤ j)) (fun i j => decide (i ≤ j)) fa fb fc)) := pt_imp (pt_chain op_le op_le ha hb hc hm) (tDT_test tD_chain)
theorem dLtLtT (ha : DE C a fa) (hb : DE C b fb) (hc : DE C c fc) (hm : lastMarks [.Lt, .Lt] [b, c] = false := by with_unfolding_all rfl) : DT C (.Compare a [.Lt, .Lt] [b, c] pos) (eTest (eChain (fun i j => decide (i < j)) (fun i j => decide (i < j)) fa fb fc)) := pt_imp (pt_chain op_lt op_lt ha hb hc hm) (tDT_test tD_chain)
theorem dLeLeE (ha : DE C a fa) (hb : DE C b fb) (hc : DE C c fc) (hm : lastMarks [.LtE, .LtE] [b, c] = false := by with_unfolding_all rfl) : DE C (.Compare a [.LtE, .LtE] [b, c] pos) (eChain (fun i j => decide (i ≤ j)) (fun i j => decide (i ≤ j)) fa fb fc) := pe_imp (pe_chain op_le op_le ha hb hc hm) tD_chain
theorem dLtLtE (ha : DE C a fa) (hb : DE C b fb) (hc : DE C c fc) (hm : lastMarks [.Lt, .Lt] [b, c] = false := by with_unfolding_all rfl) : DE C (.Compare a [.Lt, .Lt] [b, c] pos) (eChain (fun i j => decide (i < j)) (fun i j => decide (i < j)) fa fb fc) := pe_imp (pe_chain op_lt op_lt ha hb hc hm) tD_chain

/-! ### built-ins -/
theorem nx_abs (x : List D) (z : Exc) : dAbs x ≠ .err z := by unfold dAbs; split <;> exact fun h => nomatch h
theorem nx_len (x : List D) (z : Exc) : dLen x ≠ .err z := by unfold dLen; split <;> (try split) <;> exact fun h => nomatch h
theorem nx_all (x : List D) (z : Exc) : dAll x ≠ .err z := by unfold dAll; split <;> (try split) <;> exact fun h => nomatch h
theorem nx_any (x : List D) (z : Exc) : dAny x ≠ .err z := by unfold dAny; split <;> (try split) <;> exact fun h => nomatch h
theorem nx_sum (x : List D) (z : Exc) : dSum x ≠ .err z := by unfold dSum; split <;> (try split) <;> exact fun h => nomatch h
theorem dBlt {id : String} {r : List V → Hp → VK → Prop} {f : List D → Res D} (hc : CallR C.X (.builtin id) r) (hr : CallD C.g r f) (nx : ∀ x z, f x ≠ .err z) (hm : C.X.mg n = none) (hv : bootBuiltins n = some (.builtin id)) (ha : DA C (a :: es) fs) (hg : Gl C.X n := by rfl) (hn : n ≠ "__name__" := by decide) (hdb : (n == ("__debug__" : Str)) = false := by decide)
    (he : starEach (a :: es) C.X.env = (false, eval a C.X.env) :: starEach es C.X.env := by rfl) (hpl : (backTo pos (starEach es C.X.env)).any (·.1) = false := by rfl) : DE C (.Call (.Name n p) (a :: es) [] pos) (eCall f fs) := pe_imp (pe_callB hc hg hm hv ha hn hdb he hpl) (tD_call hr nx)
theorem dBty {T : String} {r : List V → Hp → VK → Prop} {f : List D → Res D} (hc : CallR C.X (.type T) r) (hr : CallD C.g r f) (nx : ∀ x z, f x ≠ .err z) (hm : C.X.mg n = none) (hv : bootBuiltins n = some (.type T)) (ha : DA C (a :: es) fs) (hg : Gl C.X n := by rfl) (hn : n ≠ "__name__" := by decide) (hdb : (n == ("__debug__" : Str)) = false := by decide)
    (he : starEach (a :: es) C.X.env = (false, eval a C.X.env) :: starEach es C.X.env := by rfl) (hpl : (backTo pos (starEach es C.X.env)).any (·.1) = false := by rfl) : DE C (.Call (.Name n p) (a :: es) [] pos) (eCall f fs) := pe_imp (pe_callTy hc hg hm hv ha hn hdb he hpl) (tD_call hr nx)
theorem bb_abs : bootBuiltins "abs" = some (.builtin "abs") := by decide +kernel
theorem bb_len : bootBuiltins "len" = some (.builtin "len") := PySem.boot_len
theorem bb_all : bootBuiltins "all" = some (.builtin "all") := by decide +kernel
theorem bb_any : bootBuiltins "any" = some (.builtin "any") := by decide +kernel
theorem bb_sum : bootBuiltins "sum" = some (.builtin "sum") := by decide +kernel
theorem bb_isi : bootBuiltins "isinstance" = some (.builtin "isinstance") := by decide +kernel
theorem bb_tInt : bootBuiltins "int" = some (.type "int") := by decide +kernel
theorem bb_tBool : bootBuiltins "bool" = some (.type "bool") := by decide +kernel
theorem bb_tStr : bootBuiltins "str" = some (.type "str") := by decide +kernel
theorem bb_tTup : bootBuiltins "tuple" = some (.type "tuple") := by decide +kernel
theorem bb_tList : bootBuiltins "list" = some (.type "list") := by decide +kernel
theorem dAbsE (hm : C.X.mg "abs" = none) (ha : DA C [a] fs) (hg : Gl C.X "abs" := by rfl) (he : starEach [a] C.X.env = (false, eval a C.X.env) :: starEach [] C.X.env := by rfl) (hpl : (backTo pos (starEach [] C.X.env)).any (·.1) = false := by rfl) : DE C (.Call (.Name "abs" p) [a] [] pos) (eCall dAbs fs) := dBlt call_abs callD_abs nx_abs hm bb_abs ha hg (by decide) (by decide) he hpl
theorem dLenE (hm : C.X.mg "len" = none) (ha : DA C [a] fs) (hg : Gl C.X "len" := by rfl) (he : starEach [a] C.X.env = (false, eval a C.X.env) :: starEach [] C.X.env := by rfl) (hpl : (backTo pos (starEach [] C.X.env)).any (·.1) = false := by rfl) : DE C (.Call (.Name "len" p) [a] [] pos) (eCall dLen fs) := dBlt call_len callD_len nx_len hm bb_len ha hg (by decide) (by decide) he hpl
theorem dAllE (hm : C.X.mg "all" = none) (ha : DA C [a] fs) (hcm : C.X.calm = true := by rfl) (hg : Gl C.X "all" := by rfl) (he : starEach [a] C.X.env = (false, eval a C.X.env) :: starEach [] C.X.env := by rfl) (hpl : (backTo pos (starEach [] C.X.env)).any (·.1) = false := by rfl) : DE C (.Call (.Name "all" p) [a] [] pos) (eCall dAll fs) := dBlt (cr_all hcm) callD_all nx_all hm bb_all ha hg (by decide) (by decide) he hpl
theorem dAnyE (hm : C.X.mg "any" = none) (ha : DA C [a] fs) (hcm : C.X.calm = true := by rfl) (hg : Gl C.X "any" := by rfl) (he : starEach [a] C.X.env = (false, eval a C.X.env) :: starEach [] C.X.env := by rfl) (hpl : (backTo pos (starEach [] C.X.env)).any (·.1) = false := by rfl) : DE C (.Call (.Name "any" p) [a] [] pos) (eCall dAny fs) := dBlt (cr_any hcm) callD_any nx_any hm bb_any ha hg (by decide) (by decide) he hpl
theorem dSumE (hm : C.X.mg "sum" = none) (ha : DA C [a] fs) (hcm : C.X.calm = true := by rfl) (hg : Gl C.X "sum" := by rfl) (he : starEach [a] C.X.env = (false, eval a C.X.env) :: starEach [] C.X.env := by rfl) (hpl : (backTo pos (starEach [] C.X.env)).any (·.1) = false := by rfl) : DE C (.Call (.Name "sum" p) [a] [] pos) (eCall dSum fs) := dBlt (cr_sum hcm) callD_sum nx_sum hm bb_sum ha hg (by decide) (by decide) he hpl
/-- isinstance(a, T), T a built-in type's name -/
def Ty.bb : (t : Ty) → bootBuiltins (Str.ofString t.nm) = some (.type t.nm)
  | .tInt => bb_tInt | .tBool => bb_tBool | .tStr => bb_tStr | .tTup => bb_tTup | .tList => bb_tList
def eIsi (t : Ty) (f : ME) : ME := fun e g => (f e g).bind fun p => pureG (dIsinst t [p.1]) p.2
theorem kb_bool (t : Ty) : kitB "bool" t.nm = some (t = .tInt || t = .tBool) := by cases t <;> decide +kernel
theorem kb_non (t : Ty) : kitB "NoneType" t.nm = some false := by cases t <;> decide +kernel
theorem kb_int (t : Ty) : kitB "int" t.nm = some (decide (t = .tInt)) := by cases t <;> decide +kernel
theorem kb_str (t : Ty) : kitB "str" t.nm = some (decide (t = .tStr)) := by cases t <;> decide +kernel
theorem kb_tup (t : Ty) : kitB "tuple" t.nm = some (decide (t = .tTup)) := by cases t <;> decide +kernel
theorem kb_lst (t : Ty) : kitB "list" t.nm = some (decide (t = .tList)) := by cases t <;> decide +kernel
theorem tyx_of {own : Own} {H : Hp} {d : D} {v : V} (r : Rep C.g H (C.Al own) d v) (t : Ty) (n : ∀ c ns l, d ≠ .ins c ns l) (n2 : ∀ ks l, d ≠ .dic ks l) : ∃ u, TyX C.X.K H v u ∧ PySem.W.kitOne C.X.K u (.type t.nm) = some (dIsi t d) := by
  cases d with
  | non => rw [r.toNon]; exact ⟨_, .base .non, kit_ty (kb_non t)⟩
  | bl b => rw [r.toBl]; exact ⟨_, .base (.bl b), kit_ty (kb_bool t)⟩
  | int b => rw [r.toInt]; exact ⟨_, .base (.int b), kit_ty (kb_int t)⟩
  | str b => rw [r.toStr]; exact ⟨_, .base (.str b), kit_ty (kb_str t)⟩
  | tup l =>
    obtain ⟨a, vs, rfl, h1, h2⟩ := r.toTup
    refine ⟨.type "tuple", ?_, kit_ty (kb_tup t)⟩
    rcases h1 with (h | ⟨o, h⟩) | ⟨o, its, n, h3, h4, _⟩
    · exact .base (.tup h)
    · exact .fTuple h
    · exact .kTuple h3 h4
  | lst l =>
    obtain ⟨a, vs, rfl, h0, h1, h2⟩ := r.toLst
    exact ⟨.type "list", .base (.lst h1), kit_ty (kb_lst t)⟩
  | dic ks l => exact (n2 _ _ rfl).elim
  | ins c ns l => exact (n _ _ _ rfl).elim
theorem dIsiE (t : Ty) {q : Pos} (hm : C.X.mg "isinstance" = none) (hmt : C.X.mg (Str.ofString t.nm) = none) (ha : DE C a fa) (hg : Gl C.X "isinstance" := by rfl) (hgt : Gl C.X (Str.ofString t.nm) := by rfl) (hnt : Str.ofString t.nm ≠ "__name__" := by decide) (hdt : (Str.ofString t.nm == ("__debug__" : Str)) = false := by decide)
    (he : starEach [a, .Name (Str.ofString t.nm) q] C.X.env = (false, eval a C.X.env) :: starEach [.Name (Str.ofString t.nm) q] C.X.env := by rfl) (he2 : starEach [.Name (Str.ofString t.nm) q] C.X.env = (false, eval (.Name (Str.ofString t.nm) q) C.X.env) :: starEach [] C.X.env := by rfl)
    (hpl : (backTo pos (starEach [.Name (Str.ofString t.nm) q] C.X.env)).any (·.1) = false := by rfl) : DE C (.Call (.Name "isinstance" p) [a, .Name (Str.ofString t.nm) q] [] pos) (eIsi t fa) :=
  pe_imp (pe_callB call_isi hg hm bb_isi (pa_cons ha (pa_cons (pe_bltn (v := .ty t.nm) hgt hmt t.bb rfl hnt hdt) pa_nil he2) he) (by decide) (by decide) he hpl) fun σ H Q ⟨own, F, e, g, S, o⟩ => ⟨own, F, e, g, S, OutE.bindE o fun d g1 H1 v x1 S1 r1 o1 => by
    have h : (∀ c ns l, d ≠ .ins c ns l) ∧ ∀ ks l, d ≠ .dic ks l := by
      constructor
      · intro c ns l z; subst z; exact o1.elim
      · intro c ns z; subst z; exact o1.elim
    obtain ⟨u, h1, h2⟩ := tyx_of r1 t h.1 h.2
    have e1 : dIsinst t [d] = .ok (.bl (dIsi t d)) := by
      cases d <;> first | rfl | exact (h.1 _ _ _ rfl).elim | exact (h.2 _ _ rfl).elim
    rw [e1] at o1
    exact ⟨v, .ty t.nm, u, .type t.nm, dIsi t d, rfl, .ty _, h1, h2, OutE.now S1 o1 (.bl_ _)⟩⟩

/-! ### lists, slices, loops, assignments in short -/
theorem dTupE (ha : DA C es fs) {k : Nat} (h : ∀ {t : TA}, PA C.X es t → PE C.X (.Tuple es k pos) (tTup t) := by exact fun h => pe_tup h) : DE C (.Tuple es k pos) (eTup fs) := de_tup h ha
theorem alen1 {fa : ME} : ∀ e g r, aCons fa aNil e g = .ok r → r.1.length = 1 := fun e g r h => by
  unfold aCons aNil at h
  cases hf : fa e g with
  | ok p => rw [hf] at h; cases h; rfl
  | err y => rw [hf] at h; cases h
  | stuck => rw [hf] at h; cases h
theorem alen2 {fa fb : ME} : ∀ e g r, aCons fa (aCons fb aNil) e g = .ok r → r.1.length = 2 := fun e g r h => by
  unfold aCons at h
  cases hf : fa e g with
  | ok p =>
    rw [hf] at h
    simp only [Res.bind] at h
    cases hq : fb e p.2 with
    | ok q => rw [hq] at h; cases h; rfl
    | err y => rw [hq] at h; cases h
    | stuck => rw [hq] at h; cases h
  | err y => rw [hf] at h; cases h
  | stuck => rw [hf] at h; cases h
end
end DL

set_option Elab.async false
set_option linter.all false
set_option maxRecDepth 100000
/-! DL10: short rules over comprehensions and calls; the law's own def. -/
namespace DL
open PySem PySem.Spec PyProof.Rows L2
/-- a def that may be called: its promise, and how its arguments bind -/
structure Cal (P : Program) (w : World) (K : PySem.W.Frag) (mg : Str → Option Value) (base : Heap) (k : Nat) (f : Addr) (ps : List Str) (sp : Sp) : Prop where
  ex : ∃ fd, FnOk P w K mg base (L2N.CX P w) k f fd ps sp ∧ L2.Binds K fd ps []
theorem Cal.mk' {P : Program} {w : World} {K : PySem.W.Frag} {mg : Str → Option Value} {base : Heap} {k : Nat} {f : Addr} {ps : List Str} {sp : Sp} {fd : FuncData} (h : FnOk P w K mg base (L2N.CX P w) k f fd ps sp) (b : L2.Binds K fd ps []) : Cal P w K mg base k f ps sp := ⟨fd, h, b⟩
section
variable {C : Ctx} {x a b c tg : Expr} {fa fb fc : ME} {pos p : Pos} {st : Stmt} {n : Str} {es : List Expr} {fs : MA} {k : Nat} {f : Addr} {fd : FuncData} {ps : List Str}
theorem dCallE {m : List D → Res D} (FF : Cal C.X.prog C.X.w C.X.K C.X.mg C.X.base k f ps (spD C.g m)) (hr : Room k C.X.A) (tk : L2N.Takes C.X C.W) (hm : C.X.mg n = some (.ref f)) (hk : PySem.W.keepIn C.X.K (.ref f) = true)
    (ha : DA C (a :: es) fs) (hg : Gl C.X n := by rfl) (hdb : (n == ("__debug__" : Str)) = false := by decide) (he : starEach (a :: es) C.X.env = (false, eval a C.X.env) :: starEach es C.X.env := by rfl) (hpl : (backTo pos (starEach es C.X.env)).any (·.1) = false := by rfl) :
    DE C (.Call (.Name n p) (a :: es) [] pos) (eCall m fs) := by
  obtain ⟨fd, FF, hb⟩ := FF
  have h := de_callF (p := p) (dd := []) FF hr tk hg hm hk hb .nil (fun _ _ => .nil) ha hdb he hpl
  simpa using h
theorem dCallG {m : List D → Rng → Res (D × Rng)} {i : Nat} {y : Expr} (FF : Cal C.X.prog C.X.w C.X.K C.X.mg C.X.base k f ps (spG C.g m)) (hr : Room k C.X.A) (hm : C.X.mg n = some (.ref f)) (hk : PySem.W.keepIn C.X.K (.ref f) = true)
    (hv : PE C.X y (tVar i)) (ha : DA C es fs) (hg : Gl C.X n := by rfl) (hdb : (n == ("__debug__" : Str)) = false := by decide) (he : starEach (y :: es) C.X.env = (false, eval y C.X.env) :: starEach es C.X.env := by rfl) (hpl : (backTo pos (starEach es C.X.env)).any (·.1) = false := by rfl) :
    DE C (.Call (.Name n p) (y :: es) [] pos) (eCallG i m fs) := by
  obtain ⟨fd, FF, hb⟩ := FF
  exact de_callG FF hr hg hm hk hb hv ha hdb he hpl
theorem dCall0 {m : List D → Res D} {d : D} (FF : Cal C.X.prog C.X.w C.X.K C.X.mg C.X.base k f ps (spD C.g m)) (hr : Room k C.X.A) (hm : C.X.mg n = some (.ref f)) (hk : PySem.W.keepIn C.X.K (.ref f) = true) (hv : m [] = .ok d)
    (hg : Gl C.X n := by rfl) (hdb : (n == ("__debug__" : Str)) = false := by decide) : DE C (.Call (.Name n p) [] [] pos) (eC d) := by
  obtain ⟨fd, FF, hb⟩ := FF
  exact de_call0 (dd := []) FF hr hg hm hk hb .nil (fun _ _ => .nil) hv hdb
theorem dNm (i : Nat) {y : Str} (hN : C.X.N.Nodup) (hi : C.X.N[i]? = some y := by rfl) (hx : Loc C.X.env.scope y := by first | exact Or.inl rfl | exact Or.inr rfl) (hf : C.X.fn y = true ∨ C.X.env.scope.names.lookup y = some .local := by first | exact .inl rfl | exact .inr rfl) : DG C (.Name y pos) [i] (gNm i) := dg_name (pg_name hN hi hx hf)
theorem dLcE {elt iter : Expr} {ifs : List Expr} {scope : Scope} {ts vs : List Nat} {own : List (Str × Nat)} {fi : MA} {tf : TgF} {ft : MT} {fe : ME} (hN : C.X.N.Nodup) (ok : BlkOk C.X.N C.X.env.scope scope own) (hi : DI C tg iter fi) (hsub : ∀ t ∈ ts, t ∈ vs)
    (hg : ∀ s H Ca cl fp, DG (C.blk s H scope (compEnvC scope cl Ca C.X.env) fp) tg ts tf) (ht : ∀ s H Ca cl fp, DTs (C.blk s H scope (compEnvC scope cl Ca C.X.env) fp) ifs ft)
    (he : ∀ s H Ca cl fp, DE (C.blk s H scope (compEnvC scope cl Ca C.X.env) fp) elt fe) (hv : vs = own.map (·.2) := by rfl) (hc : C.X.calm = true := by rfl) (hs : ∀ x, foldedSetIterable iter C.X.env x = pure x := by intro _; rfl) :
    DF C (.ListComp elt [⟨tg, iter, ifs, 0⟩] scope pos) (aLc vs fi tf ft fe) := by
  subst hv
  exact lc_reads (fun hi' hg' ht' he' r => pe_imp (pe_lc hc hN hi' ok hg' ht' he' hs) r) hi hsub hg ht he
theorem ds_setFr {i : Nat} {f : MA} {t : TE} (h : PS C.X st (tAsg t (gName i))) (hr : ∀ σ H Q, tDF C f σ H Q → t σ H Q) : DS C st (sAsgF i f) := ps_imp h fun D σ H ⟨own, F, e, g, S, o⟩ => hr σ H _ ⟨own, F, e, g, S, OutS.bindF o fun l g1 H1 p vs x1 n hp S1 r1 o1 => o1 _ _ _ (S.setF x1 S1 n hp r1)⟩
theorem ds_setFrE {i : Nat} {f : MA} {t : TE} (h : PS C.X st (tAsg t (gName i))) (hr : ∀ σ H Q, tDF C f σ H Q → t σ H Q) : DS C st (sAsg i (eOfL f)) := ps_imp h fun DD σ H ⟨own, F, e, g, S, o⟩ => hr σ H _ ⟨own, F, e, g, S, by
  have o' : OutS C F (((f e g).bind fun p => .ok (D.lst p.1, p.2)).bind fun p => .ok (.nx (e.set i (.sh p.1)) p.2)) DD := o
  refine OutS.bindF (k := fun q => .ok (.nx (e.set i (.sh (.lst q.1))) q.2)) ?_ fun l g1 H1 p vs x1 n hp S1 r1 o1 => o1 _ _ _ (S1.set (.lst_ (S.fresh n) hp (r1.mono (.same fun _ _ z => z) fun a q _ => q.1)))
  cases hf : f e g with
  | ok q => rw [hf] at o'; exact o'
  | err y => rw [hf] at o'; exact o'
  | stuck => rw [hf] at o'; exact o'⟩
section
variable {elt iter : Expr} {ifs : List Expr} {scope : Scope} {ts vs : List Nat} {own : List (Str × Nat)} {fi : MA} {tf : TgF} {ft : MT} {fe : ME} {i : Nat} {y : Str} {py spos : Pos}
theorem dSetLcF (hN : C.X.N.Nodup) (ok : BlkOk C.X.N C.X.env.scope scope own) (hi : DI C tg iter fi) (hsub : ∀ t ∈ ts, t ∈ vs)
    (hg : ∀ s H Ca cl fp, DG (C.blk s H scope (compEnvC scope cl Ca C.X.env) fp) tg ts tf) (ht : ∀ s H Ca cl fp, DTs (C.blk s H scope (compEnvC scope cl Ca C.X.env) fp) ifs ft)
    (he : ∀ s H Ca cl fp, DE (C.blk s H scope (compEnvC scope cl Ca C.X.env) fp) elt fe) (hv : vs = own.map (·.2) := by rfl) (hc : C.X.calm = true := by rfl) (hy : C.X.N[i]? = some y := by rfl) (hyl : C.X.env.scope.names.lookup y = some .local := by rfl)
    (hsw : swapsWith (.ListComp elt [⟨tg, iter, ifs, 0⟩] scope pos) (some (.Name y py)) spos.line C.X.env = pure true := by exact sw_true rfl rfl rfl (by decide +kernel)) (hs : ∀ x, foldedSetIterable iter C.X.env x = pure x := by intro _; rfl) :
    DS C (.Assign [.Name y py] (.ListComp elt [⟨tg, iter, ifs, 0⟩] scope pos) spos) (sAsgF i (aLc vs fi tf ft fe)) := by
  subst hv
  exact lc_reads (fun hi' hg' ht' he' r => ds_setFr (ps_setLc hc hN hy hyl hsw hi' ok hg' ht' he' hs) r) hi hsub hg ht he
theorem dSetLc (hN : C.X.N.Nodup) (ok : BlkOk C.X.N C.X.env.scope scope own) (hi : DI C tg iter fi) (hsub : ∀ t ∈ ts, t ∈ vs)
    (hg : ∀ s H Ca cl fp, DG (C.blk s H scope (compEnvC scope cl Ca C.X.env) fp) tg ts tf) (ht : ∀ s H Ca cl fp, DTs (C.blk s H scope (compEnvC scope cl Ca C.X.env) fp) ifs ft)
    (he : ∀ s H Ca cl fp, DE (C.blk s H scope (compEnvC scope cl Ca C.X.env) fp) elt fe) (hv : vs = own.map (·.2) := by rfl) (hc : C.X.calm = true := by rfl) (hy : C.X.N[i]? = some y := by rfl) (hyl : C.X.env.scope.names.lookup y = some .local := by rfl)
    (hsw : swapsWith (.ListComp elt [⟨tg, iter, ifs, 0⟩] scope pos) (some (.Name y py)) spos.line C.X.env = pure true := by exact sw_true rfl rfl rfl (by decide +kernel)) (hs : ∀ x, foldedSetIterable iter C.X.env x = pure x := by intro _; rfl) :
    DS C (.Assign [.Name y py] (.ListComp elt [⟨tg, iter, ifs, 0⟩] scope pos) spos) (sAsg i (eOfL (aLc vs fi tf ft fe))) := by
  subst hv
  exact lc_reads (fun hi' hg' ht' he' r => ds_setFrE (ps_setLc hc hN hy hyl hsw hi' ok hg' ht' he' hs) r) hi hsub hg ht he
end
end

/-! ### recursion -/
theorem fn_stuck {P : Program} {w : World} {K : PySem.W.Frag} {mg : Str → Option Value} {base : Heap} {cx : CXT} {k : Nat} {f : Addr} {fd : FuncData} {ps : List Str} {g : G} {m : List D → Res D} (h : ∀ ds, m ds = .stuck) : FnOk P w K mg base cx k f fd ps (spD g m) :=
  ⟨fun vs H Q E ⟨A, ds, r, _, _, o⟩ => by rw [h] at o; exact o.elim, fun A outer s H args us vs Q E _ _ _ _ ⟨A0, ds, r, _, _, o⟩ => by rw [h] at o; exact o.elim⟩
theorem fn_stuckG {P : Program} {w : World} {K : PySem.W.Frag} {mg : Str → Option Value} {base : Heap} {cx : CXT} {k : Nat} {f : Addr} {fd : FuncData} {ps : List Str} {g : G} {m : List D → Rng → Res (D × Rng)} (h : ∀ ds r, m ds r = .stuck) : FnOk P w K mg base cx k f fd ps (spG g m) :=
  ⟨fun vs H Q E ⟨A, ds, r, c, gg, ws, e, R, rp, hA, _, _, o⟩ => by rw [h] at o; exact o.elim, fun A outer s H args us vs Q E _ _ _ _ ⟨A0, ds, r, c, gg, ws, e, R, rp, hA, _, _, o⟩ => by rw [h] at o; exact o.elim⟩

/-! ### the law's own def -/
/-- what the drawing's list is made of -/
def spSrc (K : PySem.W.Frag) : Sp := fun vs H Q _ => ∃ (a : Addr) (ns : List Int), vs = [.ref a] ∧ SqL K H a (ns.map V.int) ∧ ns.length ≤ 63 ∧ ∀ H' r c g, Same H H' → H r = none → H c = none → RngAt H' r c g → Q (.ref r) H'
def spLaw (K : PySem.W.Frag) (tb : List (Addr × Str)) : Sp := fun vs H Q _ => ∃ (a : Addr) (ns : List Int), vs = [.ref a] ∧ Tabs tb H ∧ SqL K H a (ns.map V.int) ∧ ns.length ≤ 63 ∧ ∀ H', Q (.bl true) H'
structure Rng.Ok (g : Rng) : Prop where
  i0 : 0 ≤ g.i
  b0 : 0 ≤ g.b
  s0 : 0 ≤ g.s
  s1 : g.s < 2147483563
  cl : g.cells.length ≤ 63
theorem RngAt.ok {H : Hp} {r c : Addr} {g : Rng} (R : RngAt H r c g) : g.Ok := ⟨R.i0, R.b0, R.s0, R.s1, R.cl⟩
section
variable {P : Program} {w : World} {K : PySem.W.Frag} {mg : Str → Option Value} {base : Heap} {cm : Str → Option Addr} {tb : List (Addr × Str)}
def envL (n : Nat) : En := .un :: .rng :: List.replicate (n - 2) .un
theorem okC {CX : CXT} {x qual : Str} {params : Arguments} {body : List Stmt} {scope : Scope} {dvs : List V} {kws : List (Str × V)} {f : Addr} {fd : FuncData} {N ps : List Str} {k : Nat} {sp : Sp} (F : FunD K x qual params body scope dvs kws f fd) (S : FnScope N ps scope) (len : ∀ vs H Q E, sp vs H Q E → vs.length = ps.length)
    (hbody : ∀ (cdv : Value), fd.code = cdv → ∀ (A : Around) (outer : List PySem.Env) (s : Shared) (H : Hp) (vs : List V) (Q : VK) (E : XK), Room k (A.deeper (envOfC qual scope s.heap.objs.size f cdv)) → sp vs H Q E →
      ∃ t, PSs (cxOf CX P w K mg base N qual scope f cdv A outer s H E) body t ∧ t { nx := fun _ H' => Q .non H', rt := Q } (L2.start N vs) H) : FnOk P w K mg base CX (k + 1) f fd ps sp := by
  obtain ⟨oc, od, dV, kV, doc, pm, an, cdv, ct, osl, rfl, lk, hcd, _, _⟩ := F.ex
  exact fn_of lk hcd S len fun A outer s H vs Q E hr hsp => hbody cdv rfl A outer s H vs Q E hr hsp
theorem fn_law {st : Stmt} {f : Addr} {fd : FuncData} {N : List Str} {k : Nat} {s0 : Stmt} {rest : List Stmt} {dvs : List V} {kws : List (Str × V)} (F : FunD K "law" "law" (defArgs st) (defBody st) (defScope st) dvs kws f fd) (S : FnScope N ["_law_script"] (defScope st)) (b : MS) (hN : 2 ≤ N.length) (hst : defBody st = s0 :: rest)
    (first : ∀ (cdv : Value) (A : Around) (outer : List PySem.Env) (s : Shared) (H : Hp) (E : XK), Room k (A.deeper (envOfC "law" (defScope st) s.heap.objs.size f cdv)) → PS (cxOf (L2N.CX P w) P w K mg base N "law" (defScope st) f cdv A outer s H E) s0 (tAsg (tCall (spSrc K) [] E0 (tCons (tVar 0) tNil)) (gName 1)))
    (body : ∀ (cdv : Value) (A : Around) (outer : List PySem.Env) (s : Shared) (H : Hp) (E : XK) (H1 : Hp) (r c : Addr), fd.code = cdv → Room k (A.deeper (envOfC "law" (defScope st) s.heap.objs.size f cdv)) →
      DSs { X := cxOf (L2N.CX P w) P w K mg base N "law" (defScope st) f cdv A outer s H E, cm := cm, tb := tb, W := fun c dd _ H' => E c dd H', H0 := H1, A := fun _ => False, rg := some (r, c) } rest b)
    (hb : ∀ g : Rng, g.Ok → ∃ g', b (envL N.length) g = .ok (.rt (.bl true) g')) :
    FnOk P w K mg base (L2N.CX P w) (k + 1) f fd ["_law_script"] (spLaw K tb) := by
  refine okC F S (fun vs H Q E ⟨a, ns, h, _⟩ => by rw [h]; rfl) fun cdv hcd A outer s H vs Q E hr h => ?_
  obtain ⟨a, ns, rfl, tt, hS, hl, hq⟩ := h
  rw [hst]
  let CC : Hp → Addr → Addr → Ctx := fun H1 r c => { X := cxOf (L2N.CX P w) P w K mg base N "law" (defScope st) f cdv A outer s H E, cm := cm, tb := tb, W := fun c dd _ H' => E c dd H', H0 := H1, A := fun _ => False, rg := some (r, c) }
  have hrest : PSs (cxOf (L2N.CX P w) P w K mg base N "law" (defScope st) f cdv A outer s H E) rest (fun D σ H' => ∃ H1 r c, tDS (CC H1 r c) b D σ H') :=
    ⟨fun pins sh σ H' D I ⟨H1, r, c, z⟩ => (body cdv A outer s H E H1 r c hcd hr).run pins sh σ H' D I z⟩
  refine ⟨_, pss_cons (first cdv A outer s H E hr) hrest, ?_⟩
  have h0 : (L2.start N [.ref a])[0]? = some (some (.ref a)) := start_get rfl
  refine ⟨.ref a, h0, a, ns, by simp, hS, hl, fun H' r c g same nr nc R => ⟨H', r, c, ?_⟩⟩
  obtain ⟨g', hg'⟩ := hb g R.ok
  have tt' : Tabs tb H' := tt.ext same
  have io : ∀ x, (CC H' r c).io x → x = r ∨ ∃ p ∈ tb, p.1 = x := fun x h => h.elim (fun ⟨c', z⟩ => by cases z; exact .inl rfl) .inr
  have ntL : ∀ {x : Addr} {xs : List V}, H' x = some (.lst xs) → ∀ p ∈ tb, p.1 ≠ x := fun {x xs} h p hp z => by
    obtain ⟨ps, h1, _⟩ := tt' p hp
    rw [z, h] at h1; cases h1
  have at0 : ∀ x, (CC H' r c).io x → ∃ o, H' x = some o ∧ MutO o := fun x h => by
    rcases io x h with rfl | ⟨p, hp, rfl⟩
    · exact ⟨_, R.at_, .inl ⟨_, rfl⟩⟩
    · exact tt'.at_ hp
  have lenS : (L2.start N [V.ref a]).length = N.length := by unfold L2.start; simp; omega
  have S0 : SR (CC H' r c) (fun _ => none) (fun _ => none) H' ((L2.start N [.ref a]).set 1 (some (.ref r))) (envL N.length) g := by
    refine ⟨?_, fun i s hs => ?_, fun i p h => ?_, fun i p h => ?_, fun i j p h => ?_, ⟨0, fun _ _ => rfl⟩, fun a o h _ => h, fun a o h => ?_, at0, tt', fun a h => ?_, fun r' c' z => ?_⟩
    · rw [List.length_set, lenS]; unfold envL; simp; omega
    · unfold envL at hs
      match i with
      | 0 => cases hs; trivial
      | 1 => cases hs; exact ⟨r, c, rfl, by rw [List.getElem?_set_self (by rw [lenS]; omega)]⟩
      | i + 2 =>
        simp only [List.getElem?_cons_succ, List.getElem?_replicate] at hs
        split at hs
        · cases hs; trivial
        · cases hs
    · cases h
    · cases h
    · cases h
    · cases h
    · obtain ⟨o, e, _⟩ := at0 a h
      show H' a ≠ none
      rw [e]; exact fun z => nomatch z
    · cases z
      exact ⟨.inl ⟨c, rfl⟩, fun hi => (io c hi).elim R.ne fun ⟨p, hp, z⟩ => ntL R.ce p hp z, (by show H' c ≠ none; rw [R.ce]; exact fun z => nomatch z), R⟩
  refine ⟨fun _ => none, fun _ => none, envL N.length, g, S0, ?_⟩
  show OutS (CC H' r c) _ (b (envL N.length) g) _
  rw [hg']
  intro own' σ' e' H2 v S' rv
  rw [rv.toBl]
  exact hq H2
end
end DL
namespace DL
open PySem PySem.Spec PyProof.Rows L2
theorem cx_false {P : Program} {w : World} {H : Hp} {s : Shared} {e : Value} {s' : Shared} (h : L2N.CX P w [] H s (fun _ _ _ => False) e s') : False := by
  obtain ⟨_, _, _, _, _, _, _, _, _, _, _, _, z⟩ := h
  exact z.elim
theorem fun_same {K : PySem.W.Frag} {x qual : Str} {st : Stmt} {f : Addr} {fd fd' : FuncData} {oc : Value} {od : Option Addr} {osl : Array (Option Value)} (F : Fun K x qual st f fd) (l : K.lookup f = some ⟨oc, od, .func fd', osl⟩) : fd = fd' := by
  obtain ⟨oc, od, kV, doc, pm, an, cdv, ct, osl, rfl, lk, hcd⟩ := F.ex
  rw [lk] at l
  cases l; rfl
theorem cut63 {ns : List Int} (h : ns.length ≤ 63) : cutV (ns.map V.int) none (some 63) = ns.map V.int := by
  unfold cutV
  have h1 : HT.sIx (ns.map V.int).length 0 none = 0 := rfl
  have h2 : HT.sIx (ns.map V.int).length (ns.map V.int).length (some 63) = ns.length := by
    rw [List.length_map]
    have := HT.sIx_nat ns.length ns.length 63
    rw [show ((63 : Nat) : Int) = 63 from rfl] at this
    rw [this]; omega
  rw [h1, h2, List.drop_zero, Nat.sub_zero, List.take_of_length_le (by simp)]
end DL
namespace DL
def fuGcd (e : En) : Nat := match e[1]? with
  | some (Slot.sh (D.int i)) => i.natAbs + 1
  | _ => 0
def fuGcd2 (e : En) : Nat := match e[3]? with
  | some (Slot.sh (D.int i)) => i.natAbs + 1
  | _ => 0
end DL

set_option Elab.async false
set_option linter.all false
set_option maxRecDepth 100000
/-! DL11: what is not walked; conversions, slices, methods by value, calls with keywords. -/
namespace DL
open PySem PySem.Spec PyProof.Rows L2
/-! ### what no law reaches -/
def eBad : ME := fun _ _ => .stuck
def sBad : MS := fun _ _ => .stuck
section
variable {C : Ctx} {x a b lo hi : Expr} {fa fb fl fh : ME} {pos p p2 apos : Pos} {st : Stmt} {n : Str} {es : List Expr} {fs : MA}
theorem de_bad : DE C x eBad := ⟨fun _ _ _ _ _ _ ⟨_, _, _, _, _, o⟩ => o.elim⟩
theorem ds_bad : DS C st sBad := ⟨fun _ _ _ _ _ _ ⟨_, _, _, _, _, o⟩ => o.elim⟩
/-! ### list(x), tuple(x) -/
def dList : List D → Res D
  | [.lst l] => .ok (.lst l)
  | [.tup l] => .ok (.lst l)
  | _ => .stuck
def dTupOf : List D → Res D
  | [.lst l] => .ok (.tup l)
  | [.tup l] => .ok (.tup l)
  | _ => .stuck
theorem nx_list (x : List D) (z : Exc) : dList x ≠ .err z := by unfold dList; split <;> exact fun h => nomatch h
theorem nx_tupOf (x : List D) (z : Exc) : dTupOf x ≠ .err z := by unfold dTupOf; split <;> exact fun h => nomatch h
theorem callD_list {g : G} : CallD g (fun xs H Q => ∃ p ys, xs = [.ref p] ∧ (SqL g.K H p ys ∨ SqT g.K H p ys) ∧ ∀ l, H l = none → Q (.ref l) (upd H l (.lst ys))) dList := fun xs vs H A Q r o => by
  unfold dList at o
  split at o
  · obtain ⟨v, vs', rfl, h1, h2⟩ := r.toCons
    obtain ⟨a, ws, rfl, h3, h4, h5⟩ := h1.toLst
    rw [h2.toNil]
    exact ⟨a, ws, rfl, .inl (SqL.of h4), fun l hl => o.newL hl h5⟩
  · obtain ⟨v, vs', rfl, h1, h2⟩ := r.toCons
    obtain ⟨a, ws, rfl, h3, h4⟩ := h1.toTup
    rw [h2.toNil]
    exact ⟨a, ws, rfl, .inr h3, fun l hl => o.newL hl h4⟩
  · exact o.elim
theorem callD_tupOf {g : G} : CallD g (fun xs H Q => ∃ p ys, xs = [.ref p] ∧ ((SqL g.K H p ys ∧ ∀ l, H l = none → Q (.ref l) (upd H l (.tup ys))) ∨ (SqT g.K H p ys ∧ Q (.ref p) H))) dTupOf := fun xs vs H A Q r o => by
  unfold dTupOf at o
  split at o
  · obtain ⟨v, vs', rfl, h1, h2⟩ := r.toCons
    obtain ⟨a, ws, rfl, h3, h4, h5⟩ := h1.toLst
    rw [h2.toNil]
    exact ⟨a, ws, rfl, .inl ⟨SqL.of h4, fun l hl => o.newT hl h5⟩⟩
  · obtain ⟨v, vs', rfl, h1, h2⟩ := r.toCons
    obtain ⟨a, ws, rfl, h3, h4⟩ := h1.toTup
    rw [h2.toNil]
    exact ⟨a, ws, rfl, .inr ⟨h3, o.now (.tup_ h3 h4)⟩⟩
  · exact o.elim
theorem dListE (hm : C.X.mg "list" = none) (ha : DA C [a] fs) (hg : Gl C.X "list" := by rfl) (he : starEach [a] C.X.env = (false, eval a C.X.env) :: starEach [] C.X.env := by rfl) (hpl : (backTo pos (starEach [] C.X.env)).any (·.1) = false := by rfl) :
    DE C (.Call (.Name "list" p) [a] [] pos) (eCall dList fs) := pe_imp (pe_callTy call_list_of hg hm (by decide +kernel) ha (by decide) (by decide) he hpl) (tD_call callD_list nx_list)
theorem dTupleE (hm : C.X.mg "tuple" = none) (ha : DA C [a] fs) (hg : Gl C.X "tuple" := by rfl) (he : starEach [a] C.X.env = (false, eval a C.X.env) :: starEach [] C.X.env := by rfl) (hpl : (backTo pos (starEach [] C.X.env)).any (·.1) = false := by rfl) :
    DE C (.Call (.Name "tuple" p) [a] [] pos) (eCall dTupOf fs) := pe_imp (pe_callTy call_tuple_of hg hm (by decide +kernel) ha (by decide) (by decide) he hpl) (tD_call callD_tupOf nx_tupOf)
/-- list(x), a new list of one's own -/
def aListOf (f : MA) : MA := fun e g => (f e g).bind fun p => match p.1 with
  | [.lst l] => .ok (l, p.2)
  | [.tup l] => .ok (l, p.2)
  | _ => .stuck
theorem df_listOf (hm : C.X.mg "list" = none) (ha : DA C [a] fs) (hg : Gl C.X "list" := by rfl) (he : starEach [a] C.X.env = (false, eval a C.X.env) :: starEach [] C.X.env := by rfl) (hpl : (backTo pos (starEach [] C.X.env)).any (·.1) = false := by rfl) :
    DF C (.Call (.Name "list" p) [a] [] pos) (aListOf fs) := pe_imp (pe_callTy call_list_of hg hm (by decide +kernel) ha (by decide) (by decide) he hpl) fun σ H Q ⟨own, F, e, g, S, o⟩ => ⟨own, F, e, g, S, OutF.bindA o fun l g1 H1 vs x1 S1 r1 o1 => by
  revert o1
  split
  · intro o1
    rename_i heq
    have hl : l = [.lst _] := heq
    subst hl
    obtain ⟨v, vs', rfl, h1, h2⟩ := r1.toCons
    obtain ⟨a, ws, rfl, h3, h4, h5⟩ := h1.toLst
    rw [h2.toNil]
    exact ⟨a, ws, rfl, .inl (SqL.of h4), fun l hl => o1.newL S1 hl h5⟩
  · intro o1
    rename_i heq
    have hl : l = [.tup _] := heq
    subst hl
    obtain ⟨v, vs', rfl, h1, h2⟩ := r1.toCons
    obtain ⟨a, ws, rfl, h3, h4⟩ := h1.toTup
    rw [h2.toNil]
    exact ⟨a, ws, rfl, .inr h3, fun l hl => o1.newL S1 hl h4⟩
  · exact fun o1 => o1.elim⟩
/-- a + b, a new list of one's own -/
def aCat (a b : ME) : MA := fun e g => (a e g).bind fun p => (b e p.2).bind fun q => match p.1, q.1 with
  | .lst l, .lst m => if l.length + m.length ≤ 1000 then .ok (l ++ m, q.2) else .stuck
  | _, _ => .stuck
theorem df_cat (ha : DE C a fa) (hb : DE C b fb) : DF C (.BinOp a .Add b pos) (aCat fa fb) := pe_imp (pe_op op_cat ha hb) fun σ H Q ⟨own, F, e, g, S, o⟩ => ⟨own, F, e, g, S, OutF.bindE o fun d g1 H1 v x1 S1 r1 o1 => ⟨own, F, e, g1, S1, OutF.bindE o1 fun d2 g2 H2 w x2 S2 r2 o2 => by
  cases d <;> cases d2 <;> first | exact o2.elim | skip
  rename_i i j
  obtain ⟨a, vs, rfl, h0, h1, h2⟩ := (S1.rep x2 r1).toLst
  obtain ⟨b, ws, rfl, h3, h4, h5⟩ := r2.toLst
  by_cases hl : i.length + j.length ≤ 1000
  · simp only [hl, if_true] at o2
    exact ⟨a, b, vs, ws, rfl, rfl, h1, h4, by rw [← h2.length, ← h5.length]; exact le_line hl, fun p hp => o2.newL S2 hp (h2.append h5)⟩
  · simp only [hl, if_false] at o2
    exact o2.elim⟩⟩
/-! ### slices -/
def OutP (C : Ctx) (own : Own) (F : Hp) (σ : L2.St) (e : En) (H : Hp) (r : Res (Option Int × Rng)) (Q : Option Int → Hp → Prop) : Prop :=
  match r with
  | .ok (d, g') => ∀ H', ExtI C H H' → SR C own F H' σ e g' → Q d H'
  | .err x => ∀ H' c dd, ExtI C H H' → (∃ g', SR C own F H' σ e g') → RepX C.g H' (C.Al own) x c dd → C.W c dd σ H'
  | .stuck => False
abbrev MP := En → Rng → Res (Option Int × Rng)
def pNo : MP := fun _ g => .ok (none, g)
def pAt (f : ME) : MP := fun e g => (f e g).bind fun p => match p.1 with
  | .int i => .ok (some i, p.2)
  | _ => .stuck
def tDP (C : Ctx) (f : MP) : TO := fun σ H Q => ∃ own F e g, SR C own F H σ e g ∧ OutP C own F σ e H (f e g) Q
def DP (C : Ctx) (x : Option Expr) (f : MP) : Prop := PO C.X x (tDP C f)
theorem po_imp {X : Cx} {x : Option Expr} {t t' : TO} (h : PO X x t) (i : ∀ σ H Q, t' σ H Q → t σ H Q) : PO X x t' := ⟨fun pins s σ H Q I q => h.run pins s σ H Q I (i σ H Q q)⟩
theorem dp_no : DP C none pNo := po_imp po_none fun σ H Q ⟨own, F, e, g, S, o⟩ => o H (.refl H) S
theorem dp_at (ha : DE C a fa) : DP C (some a) (pAt fa) := po_imp (po_some ha) fun σ H Q ⟨own, F, e, g, S, o⟩ => ⟨own, F, e, g, S, by
  unfold pAt at o
  cases hf : fa e g with
  | ok q =>
    obtain ⟨d, g1⟩ := q
    rw [hf] at o
    intro H1 v x1 S1 r1
    cases d <;> first | exact o.elim | skip
    rename_i i
    exact ⟨i, r1.toInt, o H1 x1 S1⟩
  | err y => rw [hf] at o; exact o
  | stuck => rw [hf] at o; exact o.elim⟩
def cutD {α : Type} (l : List α) (lo hi : Option Int) : List α := (l.drop (HT.sIx l.length 0 lo)).take (HT.sIx l.length l.length hi - HT.sIx l.length 0 lo)
def dSl (x : D) (lo hi : Option Int) : Res D := match x with
  | .lst l => .ok (.lst (cutD l lo hi))
  | .tup l => .ok (.tup (cutD l lo hi))
  | .str z => if z.length ≤ 16777216 then .ok (.str (cutS z lo hi)) else .stuck
  | _ => .stuck
def eSl (a : ME) (l h : MP) : ME := fun e g => (a e g).bind fun p => (l e p.2).bind fun q => (h e q.2).bind fun r => pureG (dSl p.1 q.1 r.1) r.2
theorem cut_rep {g : G} {H : Hp} {A : Addr → Prop} {l : List D} {vs : List V} (h : RepL g H A l vs) (lo hi : Option Int) : RepL g H A (cutD l lo hi) (cutV vs lo hi) := by
  unfold cutD cutV
  rw [h.length]
  exact (h.drop _).take _
theorem OutP.bindE {own : Own} {F H : Hp} {σ : L2.St} {e : En} {r : Res (Option Int × Rng)} {k : Option Int × Rng → Res (D × Rng)} {Q : VK} {Q1 : Option Int → Hp → Prop} (h : OutE C own F σ e H (r.bind k) Q)
    (hq : ∀ d g1 H1, ExtI C H H1 → SR C own F H1 σ e g1 → OutE C own F σ e H1 (k (d, g1)) Q → Q1 d H1) : OutP C own F σ e H r Q1 := by
  cases r with
  | ok a =>
    obtain ⟨d, g1⟩ := a
    intro H1 x S
    refine hq d g1 H1 x S ?_
    have h' : OutE C own F σ e H (k (d, g1)) Q := h
    cases hk : k (d, g1) with
    | ok a =>
      rw [hk] at h'
      exact fun H2 w x2 => h' H2 w (x.trans x2)
    | err y =>
      rw [hk] at h'
      exact fun H2 c dd x2 => h' H2 c dd (x.trans x2)
    | stuck => rw [hk] at h'; exact h'
  | err y => exact h
  | stuck => exact h
theorem cut_all {α : Type} {l : List α} {lo hi : Option Int} {n : Nat} (hn : l.length = n) (h : HT.sIx n 0 lo = 0 ∧ HT.sIx n n hi = n) : cutD l lo hi = l := by
  subst hn
  unfold cutD
  rw [h.1, h.2, List.drop_zero, Nat.sub_zero, List.take_length]
theorem nx_sl (x : D) (lo hi : Option Int) (z : Exc) : dSl x lo hi ≠ .err z := by unfold dSl; split <;> (try split) <;> exact fun h => nomatch h
theorem dSlE {lo hi : Option Expr} {fl fh : MP} (ha : DE C a fa) (hl : DP C lo fl) (hh : DP C hi fh) : DE C (.Subscript a (.Slice lo hi none p2) pos) (eSl fa fl fh) :=
  pe_imp (pe_slice (sl_list.or (sl_tupA.or sl_str)) ha hl hh) fun σ H Q ⟨own, F, e, g, S, o⟩ => ⟨own, F, e, g, S, OutE.bindE o fun d g1 H1 v x1 S1 r1 o1 => ⟨own, F, e, g1, S1, OutP.bindE o1 fun l g2 H2 x2 S2 o2 => ⟨own, F, e, g2, S2, OutP.bindE o2 fun h g3 H3 x3 S3 o3 => by
    have o4 := o3.toV S3 (nx_sl _ _ _)
    have r3 := S2.rep x3 (S1.rep x2 r1)
    cases d <;> first | exact o4.elim | skip
    · rename_i z
      have o5 : OutV C.g H3 (C.Al own) (if z.length ≤ 16777216 then .ok (.str (cutS z l h)) else .stuck) Q := o4
      by_cases hz : z.length ≤ 16777216
      · rw [if_pos hz] at o5
        exact .inr (.inr ⟨_, r3.toStr, hz, o5.str⟩)
      · rw [if_neg hz] at o5
        exact o5.elim
    · rename_i z
      obtain ⟨a, vs, rfl, h3, h4⟩ := r3.toTup
      refine .inr (.inl ⟨a, vs, rfl, h3, fun hc => ?_, fun _ p hp => o4.newT hp (cut_rep h4 l h)⟩)
      have e1 := cut_all (l := z) h4.length hc
      unfold dSl at o4
      simp only [e1] at o4
      exact o4.now (.tup_ h3 h4)
    · rename_i z
      obtain ⟨a, vs, rfl, h3, h4, h5⟩ := r3.toLst
      exact .inl ⟨a, vs, rfl, SqL.of h4, fun p hp => o4.newL hp (cut_rep h5 l h)⟩⟩⟩⟩
/-! ### methods of values -/
def eMethS (f : Str → List D → Res D) (a : ME) (fs : MA) : ME := fun e g => (a e g).bind fun p => match p.1 with
  | .str z => (fs e p.2).bind fun q => pureG (f z q.1) q.2
  | _ => .stuck
def eMethL (f : List D → List D → Res D) (a : ME) (fs : MA) : ME := fun e g => (a e g).bind fun p => match p.1 with
  | .lst z => (fs e p.2).bind fun q => pureG (f z q.1) q.2
  | _ => .stuck
theorem tD_methS {r : V → List V → Hp → VK → Prop} {f : Str → List D → Res D} (hr : ∀ z xs vs H A Q, RepL C.g H A xs vs → OutV C.g H A (f z xs) Q → r (.str z) vs H Q) (nx : ∀ x xs z, f x xs ≠ .err z) : ∀ σ H Q, tD C (eMethS f fa fs) σ H Q → tBM C.X.K "str" r (tD C fa) (tDA C fs) σ H Q :=
  fun σ H Q ⟨own, F, e, g, S, o⟩ => ⟨own, F, e, g, S, OutE.bindE o fun d g1 H1 v x1 S1 r1 o1 => by
    cases d <;> first | exact o1.elim | skip
    rename_i z
    rw [r1.toStr]
    exact ⟨rfl, own, F, e, g1, S1, OutE.bindA o1 fun l g2 H2 vs x2 S2 r2 o2 => hr z l vs H2 _ Q r2 (o2.toV S2 (nx _ _))⟩⟩
theorem tD_methL {r : V → List V → Hp → VK → Prop} {f : List D → List D → Res D} (hr : ∀ z v xs vs H A Q, Rep C.g H A (.lst z) v → RepL C.g H A xs vs → OutV C.g H A (f z xs) Q → r v vs H Q) (nx : ∀ x xs z, f x xs ≠ .err z) : ∀ σ H Q, tD C (eMethL f fa fs) σ H Q → tBM C.X.K "list" r (tD C fa) (tDA C fs) σ H Q :=
  fun σ H Q ⟨own, F, e, g, S, o⟩ => ⟨own, F, e, g, S, OutE.bindE o fun d g1 H1 v x1 S1 r1 o1 => by
    cases d <;> first | exact o1.elim | skip
    rename_i z
    obtain ⟨a, vs, rfl, h0, h1, h2⟩ := r1.toLst
    exact ⟨.inl ⟨rfl, vs, SqL.of h1⟩, own, F, e, g1, S1, OutE.bindA o1 fun l g2 H2 vs x2 S2 r2 o2 => hr z _ l vs H2 _ Q (S1.rep x2 r1) r2 (o2.toV S2 (nx _ _))⟩⟩
def strL : List D → Option (List Str)
  | [] => some []
  | .str z :: l => (strL l).map (z :: ·)
  | _ :: _ => none
theorem strL_rep {g : G} {H : Hp} {A : Addr → Prop} : ∀ {l : List D} {vs : List V} {ys : List Str}, strL l = some ys → RepL g H A l vs → vs = ys.map V.str
  | [], vs, ys, h, r => by cases h; exact r.toNil
  | d :: l, vs, ys, h, r => by
    cases d <;> first | cases h | skip
    rename_i z
    unfold strL at h
    cases q : strL l with
    | none => rw [q] at h; cases h
    | some zs =>
      rw [q] at h; cases h
      obtain ⟨v, vs', rfl, h1, h2⟩ := r.toCons
      rw [h1.toStr, strL_rep q h2]
      rfl
def joinS (a : Str) (l : List D) : Res D := match strL l with
  | some ys => if (ys.map (·.length)).sum + ys.length * a.length ≤ 16777216 then .ok (.str (Txt.join a ys)) else .stuck
  | none => .stuck
def dJoin (a : Str) : List D → Res D
  | [.lst l] => joinS a l
  | [.tup l] => joinS a l
  | _ => .stuck
theorem nx_joinS (a : Str) (l : List D) (z : Exc) : joinS a l ≠ .err z := by unfold joinS; split <;> (try split) <;> exact fun h => nomatch h
theorem nx_join (a : Str) (l : List D) (z : Exc) : dJoin a l ≠ .err z := by unfold dJoin; split <;> first | exact nx_joinS _ _ _ | exact fun h => nomatch h
theorem joinS_out {g : G} {H : Hp} {A : Addr → Prop} {a : Str} {l : List D} {Q : VK} (h : OutV g H A (joinS a l) Q) : ∃ ys, strL l = some ys ∧ (ys.map (·.length)).sum + ys.length * a.length ≤ 16777216 ∧ Q (.str (Txt.join a ys)) H := by
  unfold joinS at h
  cases q : strL l with
  | none => rw [q] at h; exact h.elim
  | some ys =>
    rw [q] at h
    have h' : OutV g H A (if (ys.map (·.length)).sum + ys.length * a.length ≤ 16777216 then .ok (.str (Txt.join a ys)) else .stuck) Q := h
    by_cases hl : (ys.map (·.length)).sum + ys.length * a.length ≤ 16777216
    · rw [if_pos hl] at h'; exact ⟨ys, rfl, hl, h'.str⟩
    · rw [if_neg hl] at h'; exact h'.elim
theorem dJoinE (ha : DE C a fa) (hb : DA C (b :: []) fs) (hbase : attributeBase a "join" C.X.env (eval a C.X.env) = eval a C.X.env := by rfl)
    (hfew : ((backTo pos (starEach (b :: []) C.X.env)).all (fun x => !x.1) && (backToKw pos (keywordEach [] C.X.env)).all (fun x => x.1.isSome) && decide ((b :: ([] : List Expr)).length + ([] : List Keyword).length + (if ([] : List Keyword).isEmpty then 0 else 1) < 30)) = true := by rfl)
    (hline : (apos.endLine == pos.line) = true := by rfl) (hs : starEach (b :: []) C.X.env = (false, eval b C.X.env) :: starEach [] C.X.env := by rfl) (hpl : (backTo pos (starEach [] C.X.env)).any (·.1) = false := by rfl) :
    DE C (.Call (.Attribute a "join" apos) [b] [] pos) (eMethS dJoin fa fs) :=
  pe_imp (pe_bm PySem.F.plainAttrs_str PySem.F.slot_str_join PySem.F.type_str_join mt_join ha hb hbase hfew hline hs hpl) (tD_methS (fun z xs vs H A Q r o => by
    unfold dJoin at o
    split at o
    · obtain ⟨v, vs', rfl, h1, h2⟩ := r.toCons
      obtain ⟨p, ws, rfl, h3, h4, h5⟩ := h1.toLst
      obtain ⟨ys, q1, q2, q3⟩ := joinS_out o
      rw [h2.toNil]
      rw [strL_rep q1 h5] at h4
      exact ⟨z, p, ys, rfl, rfl, .inl (SqL.of h4), q2, q3⟩
    · obtain ⟨v, vs', rfl, h1, h2⟩ := r.toCons
      obtain ⟨p, ws, rfl, h3, h4⟩ := h1.toTup
      obtain ⟨ys, q1, q2, q3⟩ := joinS_out o
      rw [h2.toNil]
      rw [strL_rep q1 h4] at h3
      exact ⟨z, p, ys, rfl, rfl, .inr h3, q2, q3⟩
    · exact o.elim) nx_join)
def dIndex (l : List D) : List D → Res D
  | [y] => if SeqAt.shaped (.list (D.pyL l)) = true ∧ SeqAt.shaped y.py = true then (match (D.pyL l).findIdx? (fun z => PyData.eqv z y.py) with
    | some j => .ok (.int (j : Nat))
    | none => .stuck) else .stuck
  | _ => .stuck
theorem nx_index (a : List D) (l : List D) (z : Exc) : dIndex a l ≠ .err z := by unfold dIndex; split <;> (try split) <;> (try split) <;> exact fun h => nomatch h
theorem dIndexE (hu : C.X.A.units + 65 < cLine) (ha : DE C a fa) (hb : DA C (b :: []) fs) (hbase : attributeBase a "index" C.X.env (eval a C.X.env) = eval a C.X.env := by rfl)
    (hfew : ((backTo pos (starEach (b :: []) C.X.env)).all (fun x => !x.1) && (backToKw pos (keywordEach [] C.X.env)).all (fun x => x.1.isSome) && decide ((b :: ([] : List Expr)).length + ([] : List Keyword).length + (if ([] : List Keyword).isEmpty then 0 else 1) < 30)) = true := by rfl)
    (hline : (apos.endLine == pos.line) = true := by rfl) (hs : starEach (b :: []) C.X.env = (false, eval b C.X.env) :: starEach [] C.X.env := by rfl) (hpl : (backTo pos (starEach [] C.X.env)).any (·.1) = false := by rfl) :
    DE C (.Call (.Attribute a "index" apos) [b] [] pos) (eMethL dIndex fa fs) :=
  pe_imp (pe_bm PySem.F.plainAttrs_list PySem.F.slot_list_index PySem.F.type_list_index (mt_indexD hu) ha hb hbase hfew hline hs hpl) (tD_methL (fun z v xs vs H A Q rz r o => by
    unfold dIndex at o
    split at o
    · rename_i y
      split at o
      · rename_i hsh
        split at o
        · rename_i j hj
          obtain ⟨u, vs', rfl, h1, h2⟩ := r.toCons
          rw [h2.toNil]
          have hz : Dp C.g.K H v (.list (D.pyL z)) := by
            have hp : (D.lst z).py = .list (D.pyL z) := by rw [D.py]
            rw [← hp]
            exact dp_of (by rw [hp]; exact hsh.1) rz
          obtain ⟨p, ws, rfl, h3, h4, h5⟩ := rz.toLst
          obtain ⟨hjl, hj1, hj2⟩ := List.findIdx?_eq_some_iff_getElem.mp hj
          refine ⟨p, u, y.py, D.pyL z, j, (D.pyL z)[j], rfl, rfl, hz, dp_of hsh.2 h1, hsh.1, hsh.2, List.getElem?_eq_getElem hjl, hj1, fun m z' hm hz' => ?_, o.int⟩
          have hml : m < (D.pyL z).length := by omega
          rw [List.getElem?_eq_getElem hml] at hz'
          cases hz'
          exact Bool.eq_false_iff.mpr (hj2 m hm)
        · exact o.elim
      · exact o.elim
    · exact o.elim) nx_index)
end
end DL

set_option Elab.async false
set_option linter.all false
set_option maxRecDepth 100000
/-! DLa: texts: split, partition, startswith, endswith, count, str(n), int(x), f-strings, x += e. -/
namespace DL
open PySem PySem.Spec PyProof.Rows L2
section
variable {C : Ctx} {x a b lo hi : Expr} {fa fb fl fh : ME} {pos p p2 apos : Pos} {st : Stmt} {n : Str} {es : List Expr} {fs : MA}
theorem bind_ok' {α β : Type} (a : α) (k : α → Res β) : (Res.ok a).bind k = k a := rfl
theorem repL_strs {g : G} {H : Hp} {A : Addr → Prop} : ∀ ys : List Str, RepL g H A (ys.map D.str) (ys.map V.str)
  | [] => .nil
  | y :: ys => .cons (.str_ y) (repL_strs ys)
def dSplit (z : Str) : List D → Res D
  | [.str b] => if (b.length == 0) = false ∧ z.length + 2 ≤ 16777216 then .ok (.lst ((Txt.split z b).map D.str)) else .stuck
  | _ => .stuck
theorem nx_split (z : Str) (l : List D) (y : Exc) : dSplit z l ≠ .err y := by unfold dSplit; split <;> (try split) <;> exact fun h => nomatch h
def dPartition (z : Str) : List D → Res D
  | [.str b] => if (b.length == 0) = false ∧ z.length ≤ 16777216 then .ok (.tup [.str (Txt.partition z b).1, .str (Txt.partition z b).2.1, .str (Txt.partition z b).2.2]) else .stuck
  | _ => .stuck
theorem nx_partition (z : Str) (l : List D) (y : Exc) : dPartition z l ≠ .err y := by unfold dPartition; split <;> (try split) <;> exact fun h => nomatch h
def dStarts (z : Str) : List D → Res D
  | [.str b] => .ok (.bl (Txt.startswith z b))
  | _ => .stuck
theorem nx_starts (z : Str) (l : List D) (y : Exc) : dStarts z l ≠ .err y := by unfold dStarts; split <;> exact fun h => nomatch h
def dEnds (z : Str) : List D → Res D
  | [.str b] => .ok (.bl (Txt.endswith z b))
  | _ => .stuck
theorem nx_ends (z : Str) (l : List D) (y : Exc) : dEnds z l ≠ .err y := by unfold dEnds; split <;> exact fun h => nomatch h
def dCount (z : Str) : List D → Res D
  | [.str b] => .ok (.int (Txt.count z b))
  | _ => .stuck
theorem nx_count (z : Str) (l : List D) (y : Exc) : dCount z l ≠ .err y := by unfold dCount; split <;> exact fun h => nomatch h
theorem dSplitE (ha : DE C a fa) (hb : DA C (b :: []) fs) (hbase : attributeBase a "split" C.X.env (eval a C.X.env) = eval a C.X.env := by rfl)
    (hfew : ((backTo pos (starEach (b :: []) C.X.env)).all (fun x => !x.1) && (backToKw pos (keywordEach [] C.X.env)).all (fun x => x.1.isSome) && decide ((b :: ([] : List Expr)).length + ([] : List Keyword).length + (if ([] : List Keyword).isEmpty then 0 else 1) < 30)) = true := by rfl)
    (hline : (apos.endLine == pos.line) = true := by rfl) (hs : starEach (b :: []) C.X.env = (false, eval b C.X.env) :: starEach [] C.X.env := by rfl) (hpl : (backTo pos (starEach [] C.X.env)).any (·.1) = false := by rfl) :
    DE C (.Call (.Attribute a "split" apos) [b] [] pos) (eMethS dSplit fa fs) :=
  pe_imp (pe_bm PySem.F.plainAttrs_str PySem.F.slot_str_split PySem.F.type_str_split mt_split ha hb hbase hfew hline hs hpl) (tD_methS (fun z xs vs H A Q r o => by
    unfold dSplit at o
    split at o
    · rename_i y
      obtain ⟨v, vs', rfl, h1, h2⟩ := r.toCons
      rw [h2.toNil, h1.toStr]
      split at o
      · rename_i h
        exact ⟨z, y, rfl, rfl, h.1, h.2, fun p hp => o.newL hp (repL_strs _)⟩
      · exact o.elim
    · exact o.elim) nx_split)
theorem dPartitionE (ha : DE C a fa) (hb : DA C (b :: []) fs) (hbase : attributeBase a "partition" C.X.env (eval a C.X.env) = eval a C.X.env := by rfl)
    (hfew : ((backTo pos (starEach (b :: []) C.X.env)).all (fun x => !x.1) && (backToKw pos (keywordEach [] C.X.env)).all (fun x => x.1.isSome) && decide ((b :: ([] : List Expr)).length + ([] : List Keyword).length + (if ([] : List Keyword).isEmpty then 0 else 1) < 30)) = true := by rfl)
    (hline : (apos.endLine == pos.line) = true := by rfl) (hs : starEach (b :: []) C.X.env = (false, eval b C.X.env) :: starEach [] C.X.env := by rfl) (hpl : (backTo pos (starEach [] C.X.env)).any (·.1) = false := by rfl) :
    DE C (.Call (.Attribute a "partition" apos) [b] [] pos) (eMethS dPartition fa fs) :=
  pe_imp (pe_bm PySem.F.plainAttrs_str PySem.F.slot_str_partition PySem.F.type_str_partition mt_partition ha hb hbase hfew hline hs hpl) (tD_methS (fun z xs vs H A Q r o => by
    unfold dPartition at o
    split at o
    · rename_i y
      obtain ⟨v, vs', rfl, h1, h2⟩ := r.toCons
      rw [h2.toNil, h1.toStr]
      split at o
      · rename_i h
        exact ⟨z, y, rfl, rfl, h.1, h.2, fun p hp => o.newT hp (.cons (.str_ _) (.cons (.str_ _) (.cons (.str_ _) .nil)))⟩
      · exact o.elim
    · exact o.elim) nx_partition)
theorem dStartsE (ha : DE C a fa) (hb : DA C (b :: []) fs) (hbase : attributeBase a "startswith" C.X.env (eval a C.X.env) = eval a C.X.env := by rfl)
    (hfew : ((backTo pos (starEach (b :: []) C.X.env)).all (fun x => !x.1) && (backToKw pos (keywordEach [] C.X.env)).all (fun x => x.1.isSome) && decide ((b :: ([] : List Expr)).length + ([] : List Keyword).length + (if ([] : List Keyword).isEmpty then 0 else 1) < 30)) = true := by rfl)
    (hline : (apos.endLine == pos.line) = true := by rfl) (hs : starEach (b :: []) C.X.env = (false, eval b C.X.env) :: starEach [] C.X.env := by rfl) (hpl : (backTo pos (starEach [] C.X.env)).any (·.1) = false := by rfl) :
    DE C (.Call (.Attribute a "startswith" apos) [b] [] pos) (eMethS dStarts fa fs) :=
  pe_imp (pe_bm PySem.F.plainAttrs_str PySem.F.slot_str_startswith PySem.F.type_str_startswith mt_startswith ha hb hbase hfew hline hs hpl) (tD_methS (fun z xs vs H A Q r o => by
    unfold dStarts at o
    split at o
    · rename_i y
      obtain ⟨v, vs', rfl, h1, h2⟩ := r.toCons
      rw [h2.toNil, h1.toStr]
      exact ⟨z, y, rfl, rfl, o.bl⟩
    · exact o.elim) nx_starts)
theorem dEndsE (ha : DE C a fa) (hb : DA C (b :: []) fs) (hbase : attributeBase a "endswith" C.X.env (eval a C.X.env) = eval a C.X.env := by rfl)
    (hfew : ((backTo pos (starEach (b :: []) C.X.env)).all (fun x => !x.1) && (backToKw pos (keywordEach [] C.X.env)).all (fun x => x.1.isSome) && decide ((b :: ([] : List Expr)).length + ([] : List Keyword).length + (if ([] : List Keyword).isEmpty then 0 else 1) < 30)) = true := by rfl)
    (hline : (apos.endLine == pos.line) = true := by rfl) (hs : starEach (b :: []) C.X.env = (false, eval b C.X.env) :: starEach [] C.X.env := by rfl) (hpl : (backTo pos (starEach [] C.X.env)).any (·.1) = false := by rfl) :
    DE C (.Call (.Attribute a "endswith" apos) [b] [] pos) (eMethS dEnds fa fs) :=
  pe_imp (pe_bm PySem.F.plainAttrs_str PySem.F.slot_str_endswith PySem.F.type_str_endswith mt_endswith ha hb hbase hfew hline hs hpl) (tD_methS (fun z xs vs H A Q r o => by
    unfold dEnds at o
    split at o
    · rename_i y
      obtain ⟨v, vs', rfl, h1, h2⟩ := r.toCons
      rw [h2.toNil, h1.toStr]
      exact ⟨z, y, rfl, rfl, o.bl⟩
    · exact o.elim) nx_ends)
theorem dCountE (ha : DE C a fa) (hb : DA C (b :: []) fs) (hbase : attributeBase a "count" C.X.env (eval a C.X.env) = eval a C.X.env := by rfl)
    (hfew : ((backTo pos (starEach (b :: []) C.X.env)).all (fun x => !x.1) && (backToKw pos (keywordEach [] C.X.env)).all (fun x => x.1.isSome) && decide ((b :: ([] : List Expr)).length + ([] : List Keyword).length + (if ([] : List Keyword).isEmpty then 0 else 1) < 30)) = true := by rfl)
    (hline : (apos.endLine == pos.line) = true := by rfl) (hs : starEach (b :: []) C.X.env = (false, eval b C.X.env) :: starEach [] C.X.env := by rfl) (hpl : (backTo pos (starEach [] C.X.env)).any (·.1) = false := by rfl) :
    DE C (.Call (.Attribute a "count" apos) [b] [] pos) (eMethS dCount fa fs) :=
  pe_imp (pe_bm PySem.F.plainAttrs_str PySem.F.slot_str_count PySem.F.type_str_count mt_count ha hb hbase hfew hline hs hpl) (tD_methS (fun z xs vs H A Q r o => by
    unfold dCount at o
    split at o
    · rename_i y
      obtain ⟨v, vs', rfl, h1, h2⟩ := r.toCons
      rw [h2.toNil, h1.toStr]
      exact ⟨z, y, rfl, rfl, o.int⟩
    · exact o.elim) nx_count)
/-! ### str(n), int(x) -/
def dStr : List D → Res D
  | [.int i] => if i.natAbs.log2 < 1920 then .ok (.str (toString i)) else .stuck
  | _ => .stuck
theorem nx_str (x : List D) (z : Exc) : dStr x ≠ .err z := by unfold dStr; split <;> (try split) <;> exact fun h => nomatch h
theorem callD_str {g : G} : CallD g (fun xs H Q => ∃ i, xs = [.int i] ∧ i.natAbs.log2 < 1920 ∧ Q (.str (toString i)) H) dStr := fun xs vs H A Q r o => by
  unfold dStr at o
  split at o
  · obtain ⟨v, vs', rfl, h1, h2⟩ := r.toCons
    rw [h2.toNil, h1.toInt]
    split at o
    · rename_i h
      exact ⟨_, rfl, h, o.str⟩
    · exact o.elim
  · exact o.elim
theorem dStrE (hm : C.X.mg "str" = none) (ha : DA C [a] fs) (hg : Gl C.X "str" := by rfl) (he : starEach [a] C.X.env = (false, eval a C.X.env) :: starEach [] C.X.env := by rfl) (hpl : (backTo pos (starEach [] C.X.env)).any (·.1) = false := by rfl) :
    DE C (.Call (.Name "str" p) [a] [] pos) (eCall dStr fs) := pe_imp (pe_callTy call_str_int hg hm (by decide +kernel) ha (by decide) (by decide) he hpl) (tD_call callD_str nx_str)
def dIntOf : List D → Res D
  | [.str z] => match PySem.intText? z with
    | some n => if z.length ≤ 640 then .ok (.int n) else .stuck
    | none => .stuck
  | [.int i] => .ok (.int i)
  | [.bl k] => .ok (.int (if k then 1 else 0))
  | _ => .stuck
theorem nx_intOf (x : List D) (z : Exc) : dIntOf x ≠ .err z := by unfold dIntOf; split <;> (try split) <;> (try split) <;> exact fun h => nomatch h
def rIntOf : List V → Hp → VK → Prop := fun xs H Q => (∃ a n, xs = [.str a] ∧ PySem.intText? a = some n ∧ a.length ≤ 640 ∧ Q (.int n) H) ∨ (∃ i, xs = [.int i] ∧ Q (.int i) H) ∨ ∃ k, xs = [.bl k] ∧ Q (.int (if k then 1 else 0)) H
theorem call_intOf {X : Cx} : CallR X (.type "int") rIntOf := fun pins s σ H xs us Q I r h => by
  rcases h with h | h
  · exact call_int_str pins s σ H xs us Q I r h
  · exact call_int1 pins s σ H xs us Q I r h
theorem callD_intOf {g : G} : CallD g rIntOf dIntOf := fun xs vs H A Q r o => by
  unfold dIntOf at o
  split at o
  · obtain ⟨v, vs', rfl, h1, h2⟩ := r.toCons
    rw [h2.toNil, h1.toStr]
    split at o
    · rename_i n hn
      split at o
      · rename_i h
        exact .inl ⟨_, n, rfl, hn, h, o.int⟩
      · exact o.elim
    · exact o.elim
  · obtain ⟨v, vs', rfl, h1, h2⟩ := r.toCons
    rw [h2.toNil, h1.toInt]
    exact .inr (.inl ⟨_, rfl, o.int⟩)
  · obtain ⟨v, vs', rfl, h1, h2⟩ := r.toCons
    rw [h2.toNil, h1.toBl]
    exact .inr (.inr ⟨_, rfl, o.int⟩)
  · exact o.elim
theorem dIntOfE (hm : C.X.mg "int" = none) (ha : DA C [a] fs) (hg : Gl C.X "int" := by rfl) (he : starEach [a] C.X.env = (false, eval a C.X.env) :: starEach [] C.X.env := by rfl) (hpl : (backTo pos (starEach [] C.X.env)).any (·.1) = false := by rfl) :
    DE C (.Call (.Name "int" p) [a] [] pos) (eCall dIntOf fs) := pe_imp (pe_callTy call_intOf hg hm (by decide +kernel) ha (by decide) (by decide) he hpl) (tD_call callD_intOf nx_intOf)
/-! ### f-strings -/
def dFmt : D → Res D
  | .str y => if y.length ≤ 16777216 then .ok (.str y) else .stuck
  | .int i => if i.natAbs.log2 < 1920 then .ok (.str (toString i)) else .stuck
  | _ => .stuck
theorem nx_fmt (x : D) (z : Exc) : dFmt x ≠ .err z := by unfold dFmt; split <;> (try split) <;> exact fun h => nomatch h
theorem de_fmt (ha : DE C a fa) : DE C (.FormattedValue a (-1) none pos) (eUn dFmt fa) := pe_imp (pe_fmt ha) fun σ H Q ⟨own, F, e, g, S, o⟩ => ⟨own, F, e, g, S, OutE.bindE o fun d g1 H1 v x1 S1 r1 o1 => by
  have o2 := o1.toV S1 (nx_fmt _)
  have o3 : OutV C.g H1 (C.Al own) (dFmt d) Q := o2
  cases d <;> first | exact o3.elim | skip
  · rename_i i
    unfold dFmt at o3
    simp only at o3
    split at o3
    · rename_i h; exact .inr ⟨i, r1.toInt, h, o3.str⟩
    · exact o3.elim
  · rename_i y
    unfold dFmt at o3
    simp only at o3
    split at o3
    · rename_i h; exact .inl ⟨y, r1.toStr, h, o3.str⟩
    · exact o3.elim⟩
/-- the parts one behind the other -/
def eJs : List ME → Str → ME
  | [], acc => eC (.str acc)
  | f :: fs, acc => fun e g => (f e g).bind fun p => match p.1 with
    | .str y => if (acc ++ y).length ≤ 16777216 then eJs fs (acc ++ y) e p.2 else .stuck
    | _ => .stuck
inductive DJ (C : Ctx) : List Expr → List ME → List TE → Prop where
  | nil : DJ C [] [] []
  | cons {e : Expr} {f : ME} {es : List Expr} {fs : List ME} {ts : List TE} (h : DE C e f) (r : DJ C es fs ts) : DJ C (e :: es) (f :: fs) (tD C f :: ts)
theorem DJ.pj {es : List Expr} {fs : List ME} {ts : List TE} (h : DJ C es fs ts) : PJ C.X es ts := by
  induction h with
  | nil => exact .nil
  | cons h _ ih => exact .cons h ih
theorem DJ.run {es : List Expr} {fs : List ME} {ts : List TE} (h : DJ C es fs ts) : ∀ (acc : Str) (σ : L2.St) (H : Hp) (Q : VK), tD C (eJs fs acc) σ H Q → tJs ts acc σ H fun out H1 => Q (.str out) H1 := by
  induction h with
  | nil =>
    intro acc σ H Q ⟨own, F, e, g, S, o⟩
    exact o H (.str acc) (.refl H) S (.str_ acc)
  | @cons e f es fs ts he r ih =>
    intro acc σ H Q ⟨own, F, en, g, S, o⟩
    refine ⟨own, F, en, g, S, OutE.bindE o fun d g1 H1 v x1 S1 r1 o1 => ?_⟩
    cases d <;> first | exact o1.elim | skip
    rename_i y
    refine ⟨y, r1.toStr, ?_⟩
    by_cases hl : (acc ++ y).length ≤ 16777216
    · simp only [hl, if_true] at o1
      exact ⟨hl, ih _ _ _ _ ⟨own, F, en, g1, S1, o1⟩⟩
    · simp only [hl, if_false] at o1
      exact o1.elim
theorem de_fs {v1 v2 : Expr} {rest : List Expr} {ms : List ME} {ts : List TE} (h : DJ C (v1 :: v2 :: rest) ms ts) : DE C (.JoinedStr (v1 :: v2 :: rest) pos) (eJs ms Str.empty) := pe_imp (pe_joined h.pj) fun σ H Q q => h.run _ _ _ _ q
theorem de_fs1 (h : DE C x fa) : DE C (.JoinedStr [x] pos) fa := pe_imp (pe_joined1 h) fun _ _ _ q => q
/-! ### x += e -/
def rAugI (f : Int → Int → Int) : TIp := ipI f
def sAug (i : Nat) (f : D → D → Res D) (fa : ME) : MS := fun e g => match e[i]? with
  | some (.sh d) => (fa e g).bind fun p => (f d p.1).bind fun y => .ok (.nx (e.set i (.sh y)) p.2)
  | _ => .stuck
def dAugAdd : D → D → Res D
  | .int i, .int j => .ok (.int (i + j))
  | .str i, .str j => if i.length + j.length ≤ 16777216 then .ok (.str (i ++ j)) else .stuck
  | _, _ => .stuck
def dAugSub : D → D → Res D
  | .int i, .int j => .ok (.int (i - j))
  | _, _ => .stuck
def rAugAdd : TIp := fun x y H Q => ipI (fun i j => i + j) x y H Q ∨ ∃ i j, x = .str i ∧ y = .str j ∧ i.length + j.length ≤ sizeLine ∧ Q (.str (i ++ j)) H
theorem ip_addD {X : Cx} : PIp X .Add rAugAdd := fun pins s σ H x y v u Q I r1 r2 h => by
  rcases h with h | h
  · exact ip_add pins s σ H x y v u Q I r1 r2 h
  · exact iop_add_str pins s σ H x y v u Q I r1 r2 h
def AugD (g : G) (t : TIp) (f : D → D → Res D) : Prop := ∀ x y v w H A Q, Rep g H A x v → Rep g H A y w → OutV g H A (f x y) Q → t v w H Q
theorem augD_add {g : G} : AugD g rAugAdd dAugAdd := fun x y v w H A Q rx ry o => by
  unfold dAugAdd at o
  split at o
  · exact .inl ⟨_, _, rx.toInt, ry.toInt, o.int⟩
  · split at o
    · rename_i h
      exact .inr ⟨_, _, rx.toStr, ry.toStr, h, o.str⟩
    · exact o.elim
  · exact o.elim
theorem augD_sub {g : G} : AugD g (ipI fun i j => i - j) dAugSub := fun x y v w H A Q rx ry o => by
  unfold dAugSub at o
  split at o
  · exact ⟨_, _, rx.toInt, ry.toInt, o.int⟩
  · exact o.elim
theorem nx_augAdd (x y : D) (z : Exc) : dAugAdd x y ≠ .err z := by unfold dAugAdd; split <;> (try split) <;> exact fun h => nomatch h
theorem nx_augSub (x y : D) (z : Exc) : dAugSub x y ≠ .err z := by unfold dAugSub; split <;> exact fun h => nomatch h
theorem ds_aug {i : Nat} {f : D → D → Res D} {tp : TIp} (h : ∀ {t : TE}, PE C.X x t → PS C.X st (tAug i t tp)) (ad : AugD C.g tp f) (nx : ∀ x y z, f x y ≠ .err z) (ha : DE C x fa) : DS C st (sAug i f fa) := ps_imp (h ha) fun D σ H ⟨own, F, e, g, S, o⟩ => by
  unfold sAug at o
  cases hs : e[i]? with
  | none => rw [hs] at o; exact o.elim
  | some s =>
    rw [hs] at o
    cases s <;> first | exact o.elim | skip
    rename_i d0
    obtain ⟨v0, h2, h3⟩ := S.sl i _ hs
    refine ⟨v0, h2, own, F, e, g, S, OutS.bindE o fun d g1 H1 v x1 S1 r1 o1 => ad _ _ _ _ _ _ _ (S.rep x1 h3) r1 ?_⟩
    cases q : f d0 d with
    | ok y =>
      simp only [q, bind_ok'] at o1
      intro H' w s r
      refine o1 _ _ _ ((S1.same s).set (r.mono (.same fun _ _ z => z) fun a q ⟨o, z⟩ => ?_))
      rcases q with q | q
      · exact q
      · exact S1.fresh q
    | err z => exact (nx _ _ _ q).elim
    | stuck => simp only [q] at o1; exact o1.elim
/-! ### a text many times -/
def dMulS : D → D → Res D := fun x y => match x, y with
  | .str z, .int j => if z.length ≤ 1000 ∧ 0 ≤ j ∧ j ≤ 1000 then .ok (.str (Txt.mul z j)) else .stuck
  | _, _ => .stuck
theorem nx_mulS (x y : D) (z : Exc) : dMulS x y ≠ .err z := by
  unfold dMulS
  split
  · split <;> exact fun h => nomatch h
  · exact fun h => nomatch h
def rMulS : R2 := fun x y H Q => ∃ z j, x = .str z ∧ y = .int j ∧ PySem.MulOk z j ∧ Q (.str (Txt.mul z j)) H
theorem op_mulS {X : Cx} : OpR X (binaryOp .Mult) rMulS := by
  rintro pins s σ H x y v u Q I rx ry ⟨z, j, rfl, rfl, hm, q⟩
  obtain ⟨t, rfl⟩ := rx
  obtain ⟨t', rfl⟩ := ry
  exact PySem.SB.mul hm fun t' k => ⟨.str (Txt.mul z j), H, I.tok _, ⟨_, rfl⟩, q⟩
theorem opD_mulS {g : G} : OpD g rMulS dMulS := fun x y v w H A Q rx ry o => by
  cases x <;> first | exact o.elim | skip
  cases y <;> first | exact o.elim | skip
  rename_i z j
  have o' : OutV g H A (if z.length ≤ 1000 ∧ 0 ≤ j ∧ j ≤ 1000 then .ok (.str (Txt.mul z j)) else .stuck) Q := o
  by_cases c : z.length ≤ 1000 ∧ 0 ≤ j ∧ j ≤ 1000
  · rw [if_pos c] at o'
    exact ⟨z, j, rx.toStr, ry.toInt, PyProof.Rows.mulOk_of 1000 1000 c.1 (by omega) (by omega) (by decide) (by decide), o'.str⟩
  · rw [if_neg c] at o'; exact o'.elim
theorem dMulSE (ha : DE C a fa) (hb : DE C b fb) : DE C (.BinOp a .Mult b pos) (eOp dMulS fa fb) := de_bin op_mulS opD_mulS nx_mulS ha hb
end
end DL

set_option Elab.async false
set_option linter.all false
set_option maxRecDepth 100000
/-! DL12: calls with keywords and defaults. -/
namespace DL
open PySem PySem.Spec PyProof.Rows L2
/-! ### where a parameter's value comes from -/
inductive Src where
  | p (i : Nat) | k (i : Nat) | d (i : Nat) | m (i : Nat)
def Src.pick {α : Type} (z : α) (us ws ds ms : List α) : Src → α
  | .p i => us.getD i z
  | .k i => ws.getD i z
  | .d i => ds.getD i z
  | .m i => ms.getD i z
def picks {α : Type} (z : α) (us ws ds ms : List α) (src : List Src) : List α := src.map (Src.pick z us ws ds ms)
theorem vals_getD {vs : List V} {us : List Value} (r : Vals vs us) (i : Nat) : RelV (vs.getD i .non) (us.getD i .none) := by
  induction r generalizing i with
  | nil => exact rfl
  | cons h t ih => cases i with
    | zero => exact h
    | succ i => simpa using ih i
theorem vals_picks {vs zs ds ms : List V} {us ws its mv : List Value} (h1 : Vals vs us) (h2 : Vals zs ws) (h3 : Vals ds its) (h4 : Vals ms mv) : ∀ src : List Src, Vals (picks .non vs zs ds ms src) (picks .none us ws its mv src)
  | [] => .nil
  | s :: src => .cons (by cases s <;> exact vals_getD (by assumption) _) (vals_picks h1 h2 h3 h4 src)
theorem rep_getD {g : G} {H : Hp} {A : Addr → Prop} : ∀ {l : List D} {vs : List V} (i : Nat), RepL g H A l vs → Rep g H A (l.getD i .non) (vs.getD i .non)
  | [], vs, i, h => by rw [h.toNil]; exact .non_
  | d :: l, vs, 0, h => by obtain ⟨v, r, rfl, h1, h2⟩ := h.toCons; exact h1
  | d :: l, vs, i + 1, h => by obtain ⟨v, r, rfl, h1, h2⟩ := h.toCons; simpa using rep_getD i h2
theorem rep_picks {g : G} {H : Hp} {A : Addr → Prop} {vs zs ds ms : List V} {us ws its mv : List D} (h1 : RepL g H A us vs) (h2 : RepL g H A ws zs) (h3 : RepL g H A its ds) (h4 : RepL g H A mv ms) : ∀ src : List Src, RepL g H A (picks .non us ws its mv src) (picks .non vs zs ds ms src)
  | [] => .nil
  | s :: src => .cons (by cases s <;> exact rep_getD _ (by assumption)) (rep_picks h1 h2 h3 h4 src)
section
variable {K : PySem.W.Frag} {x qual : Str} {params : Arguments} {body : List Stmt} {scope : Scope} {dvs : List V} {kws : List (Str × V)} {f : Addr} {fd : FuncData} {ps : List Str}
abbrev KBs (K : PySem.W.Frag) (fd : FuncData) (ps : List Str) (n : Nat) (ks : List Str) (dvs msv : List V) (src : List Src) : Prop := ∃ its mv : List Value, KBn K fd ps n ks (fun us ws => picks .none us ws its mv src) (fun vs zs => picks .non vs zs dvs msv src)
theorem kbn00 (F : FunD K x qual params body scope [] kws f fd) (n : Nat) (ks : List Str) (src : List Src)
    (h : ∀ (kV doc pm : Value) (an : Option Addr) (cdv ct : Value) (us ws : List Value), us.length = n → ws.length = ks.length → bindArgs (PySem.W.fnOf x qual params body scope .none kV doc pm an cdv ct) ⟨us, ks.zip ws⟩ = pure (ps.zip (picks .none us ws [] [] src))) : KBs K fd ps n ks [] [] src := by
  obtain ⟨oc, od, dV, kV, doc, pm, an, cdv, ct, osl, rfl, lk, hcd, hD, hK⟩ := F.ex
  rcases hD with ⟨_, rfl⟩ | ⟨e, _⟩
  · exact ⟨[], [], ⟨fun s us ws X l1 l2 => .of_eq (h kV doc pm an cdv ct us ws l1 l2), fun r1 r2 => vals_picks r1 r2 .nil .nil src⟩⟩
  · exact absurd rfl e
theorem kbn10 (F : FunD K x qual params body scope dvs kws f fd) (hd : dvs ≠ []) (n : Nat) (ks : List Str) (src : List Src)
    (h : ∀ (T : Addr) (kV doc pm : Value) (an : Option Addr) (cdv ct : Value) (us ws its : List Value), us.length = n → ws.length = ks.length → its.length = dvs.length → ∃ k, bindArgs (PySem.W.fnOf x qual params body scope (.ref T) kV doc pm an cdv ct) ⟨us, ks.zip ws⟩ = seqItems? (.ref T) >>= k ∧ k (some its.toArray) = pure (ps.zip (picks .none us ws its [] src))) : KBs K fd ps n ks dvs [] src := by
  obtain ⟨oc, od, dV, kV, doc, pm, an, cdv, ct, osl, rfl, lk, hcd, hD, hK⟩ := F.ex
  rcases hD with ⟨e, _⟩ | ⟨_, T, o, its, m, rfl, lT, oT, rT⟩
  · exact absurd e hd
  · refine ⟨its, [], ⟨fun s us ws X l1 l2 => ?_, fun r1 r2 => vals_picks r1 r2 rT .nil src⟩⟩
    obtain ⟨k, e1, e2⟩ := h T kV doc pm an cdv ct us ws its l1 l2 rT.length.symm
    refine BindsTo.of_looks fun M => ?_
    rw [e1]
    exact looks_items X lT oT (.of_pure e2)
theorem kbn01 (F : FunD K x qual params body scope [] kws f fd) (hk : kws ≠ []) (n : Nat) (ks : List Str) (ms : List (Str × V)) (src : List Src) (hms : ∀ q ∈ ms, q ∈ kws)
    (h : ∀ (D : Addr) (doc pm : Value) (an : Option Addr) (cdv ct : Value) (us ws mv : List Value), us.length = n → ws.length = ks.length → mv.length = ms.length → KwChain D ((ms.map (·.1)).zip mv) (bindArgs (PySem.W.fnOf x qual params body scope .none (.ref D) doc pm an cdv ct) ⟨us, ks.zip ws⟩) (ps.zip (picks .none us ws [] mv src))) : KBs K fd ps n ks [] (ms.map (·.2)) src := by
  obtain ⟨oc, od, dV, kV, doc, pm, an, cdv, ct, osl, rfl, lk, hcd, hD, hK⟩ := F.ex
  rcases hD with ⟨_, rfl⟩ | ⟨e, _⟩
  · rcases hK with e | ⟨D, rfl, hq⟩
    · exact absurd e hk
    · obtain ⟨mv, hl, rk, hks⟩ := kwd_vals (ms := ms) fun q hm => hq q (hms q hm)
      refine ⟨[], mv, ⟨fun s us ws X l1 l2 => ?_, fun r1 r2 => vals_picks r1 r2 .nil rk src⟩⟩
      exact BindsTo.of_looks fun M => KwChain.looks X hks (h D doc pm an cdv ct us ws mv l1 l2 hl)
  · exact absurd rfl e
theorem kbn11 (F : FunD K x qual params body scope dvs kws f fd) (hd : dvs ≠ []) (hk : kws ≠ []) (n : Nat) (ks : List Str) (ms : List (Str × V)) (src : List Src) (hms : ∀ q ∈ ms, q ∈ kws)
    (h : ∀ (T D : Addr) (doc pm : Value) (an : Option Addr) (cdv ct : Value) (us ws its mv : List Value), us.length = n → ws.length = ks.length → its.length = dvs.length → mv.length = ms.length →
      ∃ k, bindArgs (PySem.W.fnOf x qual params body scope (.ref T) (.ref D) doc pm an cdv ct) ⟨us, ks.zip ws⟩ = seqItems? (.ref T) >>= k ∧ KwChain D ((ms.map (·.1)).zip mv) (k (some its.toArray)) (ps.zip (picks .none us ws its mv src))) : KBs K fd ps n ks dvs (ms.map (·.2)) src := by
  obtain ⟨oc, od, dV, kV, doc, pm, an, cdv, ct, osl, rfl, lk, hcd, hD, hK⟩ := F.ex
  rcases hD with ⟨e, _⟩ | ⟨_, T, o, its, m, rfl, lT, oT, rT⟩
  · exact absurd e hd
  · rcases hK with e | ⟨D, rfl, hq⟩
    · exact absurd e hk
    · obtain ⟨mv, hl, rk, hks⟩ := kwd_vals (ms := ms) fun q hm => hq q (hms q hm)
      refine ⟨its, mv, ⟨fun s us ws X l1 l2 => ?_, fun r1 r2 => vals_picks r1 r2 rT rk src⟩⟩
      obtain ⟨k, e1, e2⟩ := h T D doc pm an cdv ct us ws its mv l1 l2 rT.length.symm hl
      refine BindsTo.of_looks fun M => ?_
      rw [e1]
      exact looks_items X lT oT (KwChain.looks X hks e2)
end
/-! ### the call -/
def tCallND (n m : Nat) (sp : Sp) (gV : List V → List V → List V) (E : L2.St → XK) (t tk : TA) : TE := fun σ H Q => t σ H fun vs H1 => tk σ H1 fun zs H2 => vs.length = n ∧ zs.length = m ∧ sp (gV vs zs) H2 Q (E σ)
section
variable {X : Cx} {CX : CXT} {k n : Nat} {f : Addr} {fd : FuncData} {ps ks : List Str} {sp : Sp} {E : L2.St → XK} {x : Str} {p pos : Pos} {e : Expr} {es : List Expr} {kws : List Keyword} {t tk : TA} {g : List Value → List Value → List Value} {gV : List V → List V → List V}
theorem run_fnND {pins : List (Addr × Obj)} {σ : L2.St} {H : Hp} {s : Shared} {Q : VK} {us ws : List Value} {vs zs : List V} (F : FnOk X.prog X.w X.K X.mg X.base CX k f fd ps sp) (hr : Room k X.A) (hb : KBn X.K fd ps n ks g gV) (hx : PassesAt CX X σ (E σ))
    (I : Inv X pins σ H s) (r : Vals vs us) (rz : Vals zs ws) (l1 : vs.length = n) (l2 : zs.length = ks.length) (h : sp (gV vs zs) H Q (E σ)) : wpAny (model X.prog X.w) X.A (call (.ref f) us (ks.zip ws)) (EP X pins σ Q) X.xe s := by
  have r2 := hb.rel r rz
  refine wpAny_call (codeAny_mono (F.run X.A X.stack s H ⟨us, ks.zip ws⟩ (g us ws) (gV vs zs) Q (E σ) hr I.env0 (hb.to s us ws I.kIn (r.length.symm.trans l1) (rz.length.symm.trans l2)) r2 h) fun r s' hq => ?_)
  cases r with
  | error e => exact hx pins H s e s' I hq
  | ok fl =>
    cases fl with
    | ret u => exact I.after hq
    | next => exact False.elim hq
    | brk => exact False.elim hq
    | cont => exact False.elim hq
theorem pe_callND (F : FnOk X.prog X.w X.K X.mg X.base CX k f fd ps sp) (hr : Room k X.A) (hg : Gl X x) (hm : X.mg x = some (.ref f)) (hk : PySem.W.keepIn X.K (.ref f) = true) (hb : KBn X.K fd ps n ks g gV) (hx : ∀ σ, PassesAt CX X σ (E σ))
    (ha : PA X (e :: es) t) (hkw : PK X kws tk) (hall : (backToKw pos (keywordEach kws X.env)).all (·.1.isSome) = true := by rfl) (hks : (backToKw pos (keywordEach kws X.env)).filterMap (·.1) = ks := by rfl)
    (hdb : (x == ("__debug__" : Str)) = false := by decide) (he : starEach (e :: es) X.env = (false, eval e X.env) :: starEach es X.env := by rfl)
    (hpl : ((backTo pos (starEach (e :: es) X.env)).any (·.1) || (backToKw pos (keywordEach kws X.env)).any (·.1.isNone)) = false := by rfl) :
    PE X (.Call (.Name x p) (e :: es) kws pos) (tCallND n ks.length sp gV E t tk) := by
  refine ⟨fun pins s σ H Q I h => ?_⟩
  refine wpAny_Call_Name_kw (ld_glob I hg hm ?_ hdb)
  refine PySem.W.callWith_KW (h₀ := X.base) I.ok.mod.kin hk hall (thn (ha.run pos pins s σ H _ I h) fun us s1 ⟨vs, H1, I1, r, q⟩ => ?_) hpl he
  refine thn (hkw.run pos pins s1 σ H1 _ I1 q) fun ws s2 ⟨zs, H2, I2, rz, l1, l2, q2⟩ => ⟨I2.kIn, ?_⟩
  rw [hks]
  exact run_fnND F hr hb (hx σ) I2 r rz l1 l2 q2
theorem pe_callND0 (F : FnOk X.prog X.w X.K X.mg X.base CX k f fd ps sp) (hr : Room k X.A) (hg : Gl X x) (hm : X.mg x = some (.ref f)) (hk : PySem.W.keepIn X.K (.ref f) = true) (hb : KBn X.K fd ps 0 ks g gV) (hx : ∀ σ, PassesAt CX X σ (E σ))
    (hkw : PK X kws tk) (hall : (backToKw pos (keywordEach kws X.env)).all (·.1.isSome) = true := by rfl) (hks : (backToKw pos (keywordEach kws X.env)).filterMap (·.1) = ks := by rfl)
    (hdb : (x == ("__debug__" : Str)) = false := by decide) (hpl : ((backTo pos (starEach [] X.env)).any (·.1) || (backToKw pos (keywordEach kws X.env)).any (·.1.isNone)) = false := by rfl) :
    PE X (.Call (.Name x p) [] kws pos) (tCallND 0 ks.length sp gV E tNil tk) := by
  refine ⟨fun pins s σ H Q I h => ?_⟩
  refine wpAny_Call_Name_kw (ld_glob I hg hm ?_ hdb)
  refine PySem.W.callWith_KW0 (h₀ := X.base) I.ok.mod.kin hk hall ?_ hpl
  refine thn (hkw.run pos pins s σ H _ I h) fun ws s2 ⟨zs, H2, I2, rz, l1, l2, q2⟩ => ⟨I2.kIn, ?_⟩
  rw [hks]
  exact run_fnND F hr hb (hx σ) I2 .nil rz l1 l2 q2
end
def DK (C : Ctx) (kws : List Keyword) (f : MA) : Prop := PK C.X kws (tDA C f)
theorem pk_imp {X : Cx} {x : List Keyword} {t t' : TA} (h : PK X x t) (i : ∀ σ H Q, t' σ H Q → t σ H Q) : PK X x t' := ⟨fun pos pins s σ H Q I q => h.run pos pins s σ H Q I (i σ H Q q)⟩
def eCallK (n k : Nat) (f : List D → List D → Res D) (fs fk : MA) : ME := fun e g => (fs e g).bind fun p => (fk e p.2).bind fun q => if p.1.length = n ∧ q.1.length = k then pureG (f p.1 q.1) q.2 else .stuck
/-- a def that may be called in any way -/
structure CalD (P : Program) (w : World) (K : PySem.W.Frag) (mg : Str → Option Value) (base : Heap) (k : Nat) (x : Str) (st : Stmt) (dvs : List V) (kws : List (Str × V)) (f : Addr) (ps : List Str) (sp : Sp) : Prop where
  ex : ∃ fd, FnOk P w K mg base (L2N.CX P w) k f fd ps sp ∧ FunD K x x (defArgs st) (defBody st) (defScope st) dvs kws f fd
section
variable {C : Ctx} {a : Expr} {fa : ME} {pos p kpos : Pos} {x nx : Str} {es : List Expr} {fs fk : MA} {kws : List Keyword} {nm : Option Str} {k n : Nat} {f : Addr} {ps ks : List Str} {st : Stmt} {dvs msv : List V} {kd : List (Str × V)} {dd md : List D} {src : List Src} {m : List D → Res D}
theorem dk_nil : DK C [] aNil := pk_imp pk_nil fun σ H Q ⟨own, F, e, g, S, o⟩ => o H [] (.refl H) S .nil
theorem dk_cons (ha : DE C a fa) (hr : DK C kws fk) : DK C (⟨nm, a, kpos⟩ :: kws) (aCons fa fk) :=
  pk_imp (pk_cons ha hr) fun σ H Q ⟨own, F, e, g, S, o⟩ => ⟨own, F, e, g, S, OutA.bindE o fun d g1 H1 v x1 S1 r1 o1 => ⟨own, F, e, g1, S1, OutA.bindA o1 fun l g2 H2 vs x2 S2 r2 o2 => o2 H2 (v :: vs) (.refl H2) S2 (.cons (S1.rep x2 r1) r2)⟩⟩
theorem callK_red (hdd : ∀ H A, RepL C.g H A dd dvs) (hmd : ∀ H A, RepL C.g H A md msv) {σ : L2.St} {H : Hp} {Q : VK} (h : tD C (eCallK n ks.length (fun us ws => m (picks .non us ws dd md src)) fs fk) σ H Q) :
    tCallND n ks.length (spD C.g m) (fun vs zs => picks .non vs zs dvs msv src) (WE C.W) (tDA C fs) (tDA C fk) σ H Q := by
  obtain ⟨own, F, e, g, S, o⟩ := h
  refine ⟨own, F, e, g, S, OutE.bindA o fun l g1 H1 vs x1 S1 r1 o1 => ⟨own, F, e, g1, S1, OutE.bindA o1 fun l2 g2 H2 zs x2 S2 r2 o2 => ?_⟩⟩
  by_cases hl : l.length = n ∧ l2.length = ks.length
  · simp only [hl, and_self, if_true] at o2
    exact ⟨r1.length.symm.trans hl.1, r2.length.symm.trans hl.2, C.Al own, _, rep_picks (S1.repL x2 r1) r2 (hdd _ _) (hmd _ _) src, S2.tb, Al_tb, o2.toD S2⟩
  · simp only [hl, if_false] at o2
    exact o2.elim
theorem dCallN (FF : CalD C.X.prog C.X.w C.X.K C.X.mg C.X.base k nx st dvs kd f ps (spD C.g m)) (hr : Room k C.X.A) (tk : L2N.Takes C.X C.W) (hm : C.X.mg x = some (.ref f)) (hk : PySem.W.keepIn C.X.K (.ref f) = true)
    (hb : ∀ fd, FunD C.X.K nx nx (defArgs st) (defBody st) (defScope st) dvs kd f fd → KBs C.X.K fd ps n ks dvs msv src) (hdd : ∀ H A, RepL C.g H A dd dvs) (hmd : ∀ H A, RepL C.g H A md msv)
    (ha : DA C (a :: es) fs) (hkw : DK C kws fk) (hg : Gl C.X x := by rfl) (hall : (backToKw pos (keywordEach kws C.X.env)).all (·.1.isSome) = true := by rfl) (hks : (backToKw pos (keywordEach kws C.X.env)).filterMap (·.1) = ks := by rfl)
    (hdb : (x == ("__debug__" : Str)) = false := by decide) (he : starEach (a :: es) C.X.env = (false, eval a C.X.env) :: starEach es C.X.env := by rfl)
    (hpl : ((backTo pos (starEach (a :: es) C.X.env)).any (·.1) || (backToKw pos (keywordEach kws C.X.env)).any (·.1.isNone)) = false := by rfl) :
    DE C (.Call (.Name x p) (a :: es) kws pos) (eCallK n ks.length (fun us ws => m (picks .non us ws dd md src)) fs fk) := by
  obtain ⟨fd, F1, F2⟩ := FF
  obtain ⟨its, mv, hkb⟩ := hb fd F2
  exact pe_imp (pe_callND (E := WE C.W) F1 hr hg hm hk hkb (fun σ => L2N.passAt tk σ) ha hkw hall hks hdb he hpl) fun σ H Q h => callK_red hdd hmd h
theorem dCallN0 (FF : CalD C.X.prog C.X.w C.X.K C.X.mg C.X.base k nx st dvs kd f ps (spD C.g m)) (hr : Room k C.X.A) (tk : L2N.Takes C.X C.W) (hm : C.X.mg x = some (.ref f)) (hk : PySem.W.keepIn C.X.K (.ref f) = true)
    (hb : ∀ fd, FunD C.X.K nx nx (defArgs st) (defBody st) (defScope st) dvs kd f fd → KBs C.X.K fd ps 0 ks dvs msv src) (hdd : ∀ H A, RepL C.g H A dd dvs) (hmd : ∀ H A, RepL C.g H A md msv)
    (hkw : DK C kws fk) (hg : Gl C.X x := by rfl) (hall : (backToKw pos (keywordEach kws C.X.env)).all (·.1.isSome) = true := by rfl) (hks : (backToKw pos (keywordEach kws C.X.env)).filterMap (·.1) = ks := by rfl)
    (hdb : (x == ("__debug__" : Str)) = false := by decide) (hpl : ((backTo pos (starEach [] C.X.env)).any (·.1) || (backToKw pos (keywordEach kws C.X.env)).any (·.1.isNone)) = false := by rfl) :
    DE C (.Call (.Name x p) [] kws pos) (eCallK 0 ks.length (fun us ws => m (picks .non us ws dd md src)) aNil fk) := by
  obtain ⟨fd, F1, F2⟩ := FF
  obtain ⟨its, mv, hkb⟩ := hb fd F2
  refine pe_imp (pe_callND0 (E := WE C.W) F1 hr hg hm hk hkb (fun σ => L2N.passAt tk σ) hkw hall hks hdb hpl) fun σ H Q h => ?_
  obtain ⟨own, F, e, g, S, o⟩ := callK_red (n := 0) (fs := aNil) hdd hmd h
  exact o H [] (.refl H) S .nil
end
end DL

set_option Elab.async false
set_option linter.all false
set_option maxRecDepth 100000
/-! DLm: max of two, max with a default; dict of pairs, d[k], k in d. -/
namespace DL
open PySem PySem.Spec PyProof.Rows L2
/-! ### max of two -/
def dMax2 : List D → Res D
  | [.int i, .int j] => .ok (.int (if j > i then j else i))
  | _ => .stuck
def dMin2 : List D → Res D
  | [.int i, .int j] => .ok (.int (if j < i then j else i))
  | _ => .stuck
theorem nx_max2 (x : List D) (z : Exc) : dMax2 x ≠ .err z := by unfold dMax2; split <;> exact fun h => nomatch h
theorem nx_min2 (x : List D) (z : Exc) : dMin2 x ≠ .err z := by unfold dMin2; split <;> exact fun h => nomatch h
theorem callD_max2 {g : G} : CallD g (fun xs H Q => ∃ i j, xs = [.int i, .int j] ∧ Q (.int (if j > i then j else i)) H) dMax2 := fun xs vs H A Q r o => by
  unfold dMax2 at o
  split at o
  · obtain ⟨v, vs', rfl, h1, h2⟩ := r.toCons
    obtain ⟨w, ws', rfl, h3, h4⟩ := h2.toCons
    rw [h4.toNil, h1.toInt, h3.toInt]
    exact ⟨_, _, rfl, o H _ (Same.refl H) (.int_ _)⟩
  · exact o.elim
theorem callD_min2 {g : G} : CallD g (fun xs H Q => ∃ i j, xs = [.int i, .int j] ∧ Q (.int (if j < i then j else i)) H) dMin2 := fun xs vs H A Q r o => by
  unfold dMin2 at o
  split at o
  · obtain ⟨v, vs', rfl, h1, h2⟩ := r.toCons
    obtain ⟨w, ws', rfl, h3, h4⟩ := h2.toCons
    rw [h4.toNil, h1.toInt, h3.toInt]
    exact ⟨_, _, rfl, o H _ (Same.refl H) (.int_ _)⟩
  · exact o.elim
theorem bb_max : bootBuiltins "max" = some (.builtin "max") := by decide +kernel
theorem bb_min : bootBuiltins "min" = some (.builtin "min") := by decide +kernel
section
variable {C : Ctx} {a b : Expr} {fa fb : ME} {fs : MA} {p pos kpos : Pos}
theorem dMax2E (hm : C.X.mg "max" = none) (ha : DA C [a, b] fs) (hcm : C.X.calm = true := by rfl) (hg : Gl C.X "max" := by rfl) (he : starEach [a, b] C.X.env = (false, eval a C.X.env) :: starEach [b] C.X.env := by rfl) (hpl : (backTo pos (starEach [b] C.X.env)).any (·.1) = false := by rfl) :
    DE C (.Call (.Name "max" p) [a, b] [] pos) (eCall dMax2 fs) := dBlt (call_max2 hcm) callD_max2 nx_max2 hm bb_max ha hg (by decide) (by decide) he hpl
theorem dMin2E (hm : C.X.mg "min" = none) (ha : DA C [a, b] fs) (hcm : C.X.calm = true := by rfl) (hg : Gl C.X "min" := by rfl) (he : starEach [a, b] C.X.env = (false, eval a C.X.env) :: starEach [b] C.X.env := by rfl) (hpl : (backTo pos (starEach [b] C.X.env)).any (·.1) = false := by rfl) :
    DE C (.Call (.Name "min" p) [a, b] [] pos) (eCall dMin2 fs) := dBlt (call_min2 hcm) callD_min2 nx_min2 hm bb_min ha hg (by decide) (by decide) he hpl
end
/-! ### max of a list of ints, with a default -/
def maxI (d : Int) : List Int → Int
  | [] => d
  | n :: ns => ns.foldl max n
def rMaxDf (K : PySem.W.Frag) : List V → List V → Hp → VK → Prop := fun xs zs H Q => ∃ (a : Addr) (ns : List Int) (d : Int), xs = [.ref a] ∧ zs = [.int d] ∧ SqL K H a (ns.map V.int) ∧ ns.length ≤ 1000 ∧ Q (.int (maxI d ns)) H
theorem depth_ints : ∀ ns : List Int, PyData.depthAll (ns.map PyData.int) ≤ 1
  | [] => by simp [PyData.depthAll]
  | n :: ns => by
    have := depth_ints ns
    simp [PyData.depthAll, PyData.depth]
    omega
theorem call_maxDf {X : Cx} (hc : X.calm = true) (hu : X.A.units + 65 < cLine) : CallRK X (.builtin "max") ["default"] (rMaxDf X.K) := by
  intro pins s σ H xs zs us ws Q I r rz h
  obtain ⟨a, ns, d, rfl, rfl, hs, hl, q⟩ := h
  obtain ⟨its, rv, hL, _⟩ := I.list hs
  rw [Vals.ref1 r]
  obtain ⟨wd, rfl, t, rfl⟩ := vals1 rz
  have hi : IntsAre its ns := rv.ints
  refine PySem.W.max_list_default (xs := ns.map PyData.int) (as := []) (I.ok.hd hc) hL.isList (by simpa using PyProof.Rows.ints_readAll s.heap hi) ⟨fun x hx y hy => ?_, fun x hx => ?_⟩ (by have := depth_ints ns; omega) (fun e h' tk k => ?_) fun y ys i v h' tk bs e hv rd k => ?_
  · obtain ⟨i, _, rfl⟩ := List.mem_map.mp hx
    obtain ⟨j, _, rfl⟩ := List.mem_map.mp hy
    rfl
  · obtain ⟨i, _, rfl⟩ := List.mem_map.mp hx
    exact fun z => nomatch z
  · have e' : ns = [] := List.map_eq_nil_iff.mp e
    subst e'
    exact ⟨.int d, H, I.kept k, ⟨_, rfl⟩, q⟩
  · cases ns with
    | nil => cases e
    | cons n ns =>
      rw [List.map_cons] at e
      cases e
      rw [PySem.W.maxD_ints] at rd
      obtain ⟨t', rfl⟩ : ∃ t', v = Value.int (ns.foldl max n) t' := by
        cases rd; exact ⟨_, rfl⟩
      exact ⟨.int _, H, I.kept k, ⟨_, rfl⟩, q⟩
def intsOf : List D → Option (List Int)
  | [] => some []
  | .int i :: l => (intsOf l).map (i :: ·)
  | _ :: _ => none
theorem intsOf_rep {g : G} {H : Hp} {A : Addr → Prop} : ∀ {l : List D} {vs : List V} {ns : List Int}, intsOf l = some ns → RepL g H A l vs → vs = ns.map V.int ∧ l = ns.map D.int
  | [], vs, ns, e, h => by cases e; exact ⟨h.toNil, rfl⟩
  | d :: l, vs, ns, e, h => by
    cases d <;> simp only [intsOf] at e <;> first | cases e | skip
    obtain ⟨m, hm, rfl⟩ := Option.map_eq_some_iff.mp e
    obtain ⟨v, r, rfl, h1, h2⟩ := h.toCons
    obtain ⟨e1, e2⟩ := intsOf_rep hm h2
    rw [e1, e2, h1.toInt]
    exact ⟨rfl, rfl⟩
def dMaxD (x d : D) : Res D := match x, d with
  | .lst l, .int d => match intsOf l with
    | some ns => if ns.length ≤ 1000 then .ok (.int (maxI d ns)) else .stuck
    | none => .stuck
  | _, _ => .stuck
theorem nx_maxD (x d : D) (z : Exc) : dMaxD x d ≠ .err z := by
  unfold dMaxD
  split
  · split
    · split <;> exact fun h => nomatch h
    · exact fun h => nomatch h
  · exact fun h => nomatch h
section
variable {C : Ctx} {a b : Expr} {fa fb : ME} {fs : MA} {p pos kpos : Pos}
theorem dMaxDE (hm : C.X.mg "max" = none) (ha : DE C a fa) (hb : DE C b fb) (hu : C.X.A.units + 65 < cLine) (hcm : C.X.calm = true := by rfl) (hg : Gl C.X "max" := by rfl)
    (he : backTo pos (starEach [a] C.X.env) = (false, eval a C.X.env) :: backTo pos (starEach [] C.X.env) := by rfl) (hpl : (backTo pos (starEach [a] C.X.env)).any (·.1) = false := by rfl)
    (hall : (backToKw pos (keywordEach [⟨some "default", b, kpos⟩] C.X.env)).all (·.1.isSome) = true := by rfl) (hnone : (backToKw pos (keywordEach [⟨some "default", b, kpos⟩] C.X.env)).any (·.1.isNone) = false := by rfl) (hks : (backToKw pos (keywordEach [⟨some "default", b, kpos⟩] C.X.env)).filterMap (·.1) = (["default"] : List Str) := by rfl) (he0 : starEach [a] C.X.env = (false, eval a C.X.env) :: starEach [] C.X.env := by rfl) :
    DE C (.Call (.Name "max" p) [a] [⟨some "default", b, kpos⟩] pos) (eOp dMaxD fa fb) :=
  pe_imp (pe_callBK (ks := ["default"]) (call_maxDf hcm hu) hg hm bb_max (pa_cons ha pa_nil he0) (pk_cons hb pk_nil) (by decide) (by decide) he hpl hall hnone hks) fun σ H Q ⟨own, F, e, g, S, o⟩ =>
    ⟨own, F, e, g, S, OutE.bindE o fun x g1 H1 v x1 S1 r1 o1 => (⟨own, F, e, g1, S1, OutE.bindE o1 fun y g2 H2 w x2 S2 r2 o2 => by
      have o3 := o2.toV S2 (nx_maxD _ _)
      have r1' := S1.rep x2 r1
      cases x <;> cases y <;> first | exact o3.elim | skip
      rename_i l d
      have o4 : OutV C.g H2 (C.Al own) (match intsOf l with | some ns => if ns.length ≤ 1000 then .ok (.int (maxI d ns)) else .stuck | none => .stuck) Q := o3
      cases hns : intsOf l with
      | none => rw [hns] at o4; exact o4.elim
      | some ns =>
        rw [hns] at o4
        by_cases hl : ns.length ≤ 1000
        · simp only [hl, if_true] at o4
          obtain ⟨p, vs, rfl, h1, h2, h3⟩ := r1'.toLst
          obtain ⟨rfl, _⟩ := intsOf_rep hns h3
          rw [r2.toInt]
          exact ⟨p, ns, d, rfl, rfl, SqL.of h2, hl, o4 H2 _ (Same.refl H2) (.int_ _)⟩
        · simp only [hl, if_false] at o4; exact o4.elim⟩ : tD C fb σ H1 _)⟩
end
/-! ### dicts by texts and ints -/
def putA {α : Type} (kvs : List (Key × α)) (k : Key) (v : α) : List (Key × α) := if (kvs.any fun kv => decide (kv.1 = k)) = true then kvs.map (fun kv => if kv.1 = k then (kv.1, v) else kv) else kvs ++ [(k, v)]
def mergeA {α : Type} (acc more : List (Key × α)) : List (Key × α) := more.foldl (fun acc kv => putA acc kv.1 kv.2) acc
def valA {α : Type} (kvs : List (Key × α)) (k : Key) : Option α := (kvs.find? fun kv => decide (kv.1 = k)).map (·.2)
inductive RepK (g : G) (H : Hp) (A : Addr → Prop) : List (Key × D) → List (Key × V) → Prop
  | nil : RepK g H A [] []
  | cons {k : Key} {d : D} {v : V} {m : List (Key × D)} {kvs : List (Key × V)} (h : Rep g H A d v) (r : RepK g H A m kvs) : RepK g H A ((k, d) :: m) ((k, v) :: kvs)
section
variable {g : G} {H : Hp} {A : Addr → Prop}
theorem RepK.any {m : List (Key × D)} {kvs : List (Key × V)} (r : RepK g H A m kvs) (k : Key) : (kvs.any fun kv => decide (kv.1 = k)) = m.any fun kv => decide (kv.1 = k) := by
  induction r with
  | nil => rfl
  | cons h r ih => rw [List.any_cons, List.any_cons, ih]
theorem RepK.app {m m' : List (Key × D)} {kvs kvs' : List (Key × V)} (r : RepK g H A m kvs) (r' : RepK g H A m' kvs') : RepK g H A (m ++ m') (kvs ++ kvs') := by
  induction r with
  | nil => exact r'
  | cons h r ih => exact .cons h ih
theorem RepK.put {m : List (Key × D)} {kvs : List (Key × V)} {k : Key} {d : D} {v : V} (r : RepK g H A m kvs) (h : Rep g H A d v) : RepK g H A (putA m k d) (putK kvs k v) := by
  unfold putA putK
  rw [r.any k]
  by_cases c : (m.any fun kv => decide (kv.1 = k)) = true
  · rw [if_pos c, if_pos c]
    clear c
    induction r with
    | nil => exact .nil
    | @cons k2 d2 v2 m kvs h2 r ih =>
      rw [List.map_cons, List.map_cons]
      by_cases e : k2 = k
      · rw [if_pos e, if_pos e]; exact .cons h ih
      · rw [if_neg e, if_neg e]; exact .cons h2 ih
  · rw [if_neg c, if_neg c]
    exact r.app (.cons h .nil)
theorem RepK.merge {m' : List (Key × D)} {kvs' : List (Key × V)} (r' : RepK g H A m' kvs') : ∀ {m : List (Key × D)} {kvs : List (Key × V)}, RepK g H A m kvs → RepK g H A (mergeA m m') (mergeK kvs kvs') := by
  induction r' with
  | nil => intro m kvs r; exact r
  | cons h r' ih => intro m kvs r; exact ih (r.put h)
theorem RepK.out {m : List (Key × D)} {kvs : List (Key × V)} (r : RepK g H A m kvs) : ∃ vs, kvs = (m.map (·.1)).zip vs ∧ (m.map (·.1)).length = vs.length ∧ RepL g H A (m.map (·.2)) vs := by
  induction r with
  | nil => exact ⟨[], rfl, rfl, .nil⟩
  | @cons k d v m kvs h r ih =>
    obtain ⟨vs, e1, e2, e3⟩ := ih
    exact ⟨v :: vs, by rw [e1]; rfl, by simp at e2 ⊢; exact e2, .cons h e3⟩
theorem RepK.of {vs : List V} : ∀ {ks : List Key} {l : List D} {vs : List V}, ks.length = vs.length → RepL g H A l vs → RepK g H A (ks.zip l) (ks.zip vs)
  | [], l, vs, _, _ => .nil
  | k :: ks, [], vs, h, r => by rw [r.toNil] at h; cases h
  | k :: ks, d :: l, vs, h, r => by
    obtain ⟨v, vs', rfl, h1, h2⟩ := r.toCons
    exact .cons h1 (RepK.of (vs := []) (by simpa using h) h2)
theorem RepK.val {m : List (Key × D)} {kvs : List (Key × V)} (r : RepK g H A m kvs) (k : Key) : (valV kvs k).isSome = (m.any fun kv => decide (kv.1 = k)) ∧ ∀ d, valA m k = some d → ∃ v, valV kvs k = some v ∧ Rep g H A d v := by
  induction r with
  | nil => exact ⟨rfl, fun d e => by cases e⟩
  | @cons k2 d2 v2 m kvs h r ih =>
    by_cases e : k2 = k
    · refine ⟨by rw [valV_pos e, List.any_cons, e]; simp, fun d q => ?_⟩
      unfold valA at q
      rw [List.find?_cons, decide_eq_true e] at q
      cases q
      exact ⟨v2, valV_pos e, h⟩
    · refine ⟨by rw [valV_neg e, List.any_cons, decide_eq_false e]; exact ih.1, fun d q => ?_⟩
      unfold valA at q
      rw [List.find?_cons, decide_eq_false e] at q
      obtain ⟨v, q1, q2⟩ := ih.2 d q
      exact ⟨v, (valV_neg e).trans q1, q2⟩
def keyOf : D → Option Key
  | .str s => some (.inr s)
  | .int i => some (.inl i)
  | _ => none
theorem keyOf_rep {d : D} {v : V} {k : Key} (e : keyOf d = some k) (h : Rep g H A d v) : v = kV k := by
  cases d <;> simp only [keyOf] at e <;> cases e
  · exact h.toInt
  · exact h.toStr
def pairOf : D → Option (Key × D)
  | .tup [k, d] => (keyOf k).map fun k => (k, d)
  | _ => none
def pairsOf : List D → Option (List (Key × D))
  | [] => some []
  | x :: l => match pairOf x with
    | some p => (pairsOf l).map (p :: ·)
    | none => none
theorem pairsOf_rep : ∀ {l : List D} {vs : List V} {m : List (Key × D)}, pairsOf l = some m → RepL g H A l vs → ∃ (ps : List Addr) (kvs : List (Key × V)), vs = ps.map V.ref ∧ Paired (fun p kv => SqT g.K H p [kV kv.1, kv.2]) ps kvs ∧ RepK g H A m kvs
  | [], vs, m, e, h => by cases e; exact ⟨[], [], h.toNil, .nil, .nil⟩
  | x :: l, vs, m, e, h => by
    rw [pairsOf] at e
    cases hx : pairOf x with
    | none => rw [hx] at e; cases e
    | some p =>
      rw [hx] at e
      obtain ⟨m', hm, rfl⟩ := Option.map_eq_some_iff.mp e
      obtain ⟨v, r, rfl, h1, h2⟩ := h.toCons
      obtain ⟨ps, kvs, rfl, h3, h4⟩ := pairsOf_rep hm h2
      cases x <;> simp only [pairOf] at hx <;> first | cases hx | skip
      rename_i t
      match t, hx with
      | [kd, d], hx =>
        simp only [pairOf] at hx
        obtain ⟨k, hk, rfl⟩ := Option.map_eq_some_iff.mp hx
        obtain ⟨a, us, rfl, h5, h6⟩ := h1.toTup
        obtain ⟨u1, us1, rfl, h7, h8⟩ := h6.toCons
        obtain ⟨u2, us2, rfl, h9, h10⟩ := h8.toCons
        rw [h10.toNil, keyOf_rep hk h7] at h5
        exact ⟨a :: ps, (k, u2) :: kvs, rfl, .cons h5 h3, .cons h9 h4⟩
def dDict : List D → Res D
  | [.lst l] => match pairsOf l with
    | some m => .ok (.dic ((mergeA [] m).map (·.1)) ((mergeA [] m).map (·.2)))
    | none => .stuck
  | _ => .stuck
theorem nx_dict (x : List D) (z : Exc) : dDict x ≠ .err z := by
  unfold dDict
  split
  · split <;> exact fun h => nomatch h
  · exact fun h => nomatch h
theorem dic_ {ks : List Key} {l : List D} {a : Addr} {vs : List V} (h : A a) (e : H a = some (.dK (ks.zip vs))) (n : ks.length = vs.length) (r : RepL g H A l vs) : Rep g H A (.dic ks l) (.ref a) := by
  rw [Rep]; exact ⟨a, vs, rfl, h, e, n, r⟩
theorem toDic {ks : List Key} {l : List D} {v : V} (h : Rep g H A (.dic ks l) v) : ∃ a vs, v = .ref a ∧ A a ∧ H a = some (.dK (ks.zip vs)) ∧ ks.length = vs.length ∧ RepL g H A l vs := by
  rw [Rep] at h; exact h
theorem callD_dict {g : G} : CallD g (fun xs H Q => ∃ (a : Addr) (ps : List Addr) (kvs : List (Key × V)), xs = [.ref a] ∧ SqL g.K H a (ps.map V.ref) ∧ Paired (fun p kv => SqT g.K H p [kV kv.1, kv.2]) ps kvs ∧ ∀ p, H p = none → Q (.ref p) (upd H p (.dK (mergeK [] kvs)))) dDict := fun xs vs H A Q r o => by
  unfold dDict at o
  split at o
  · rename_i l
    obtain ⟨v, vs', rfl, h1, h2⟩ := r.toCons
    obtain ⟨a, ws, rfl, h3, h4, h5⟩ := h1.toLst
    rw [h2.toNil]
    split at o
    · rename_i m hm
      obtain ⟨ps, kvs, rfl, h6, h7⟩ := pairsOf_rep hm h5
      refine ⟨a, ps, kvs, rfl, SqL.of h4, h6, fun p hp => ?_⟩
      obtain ⟨us, e1, e2, e3⟩ := (RepK.merge h7 RepK.nil).out
      have s : Same H (upd H p (.dK (mergeK [] kvs))) := fun a o e => by rw [upd_ne (ne_of_none e hp)]; exact e
      exact o _ _ s (dic_ (.inr hp) (by rw [upd_same, e1]) e2 (e3.mono (.same s) fun a q _ => .inl q))
    · exact o.elim
  · exact o.elim
/-- d[k] -/
def dGetK (x y : D) : Res D := match x with
  | .dic ks l => match keyOf y with
    | some k => match valA (ks.zip l) k with
      | some d => .ok d
      | none => .stuck
    | none => .stuck
  | _ => .stuck
theorem nx_getK (x y : D) (z : Exc) : dGetK x y ≠ .err z := by
  unfold dGetK
  split
  · split
    · split <;> exact fun h => nomatch h
    · exact fun h => nomatch h
  · exact fun h => nomatch h
theorem opD_getK : OpD g (fun x y H Q => ∃ a v, x = .ref a ∧ DGet H a y (some v) ∧ Q v H) dGetK := fun x y v w H A Q rx ry o => by
  cases x <;> first | exact o.elim | skip
  rename_i ks l
  have o2 : OutV g H A (match keyOf y with
    | some k => match valA (ks.zip l) k with
      | some d => .ok d
      | none => .stuck
    | none => .stuck) Q := o
  cases hk : keyOf y with
  | none => rw [hk] at o2; exact o2.elim
  | some k =>
    rw [hk] at o2
    obtain ⟨a, vs, rfl, h1, h2, h3, h4⟩ := toDic rx
    have e := (RepK.of (vs := []) h3 h4).val k
    cases hd : valA (ks.zip l) k with
    | none => simp only [hd] at o2; exact o2.elim
    | some d =>
      simp only [hd] at o2
      obtain ⟨u, q1, q2⟩ := e.2 d hd
      rw [keyOf_rep hk ry]
      exact ⟨a, u, rfl, by rw [← q1]; exact DGet.k h2, o2.now q2⟩
def dInK (x y : D) : Res D := match y with
  | .dic ks l => match keyOf x with
    | some k => .ok (.bl ((ks.zip l).any fun kv => decide (kv.1 = k)))
    | none => .stuck
  | _ => .stuck
def dNotInK (x y : D) : Res D := match y with
  | .dic ks l => match keyOf x with
    | some k => .ok (.bl (!(ks.zip l).any fun kv => decide (kv.1 = k)))
    | none => .stuck
  | _ => .stuck
theorem nx_inK (x y : D) (z : Exc) : dInK x y ≠ .err z := by
  unfold dInK
  split
  · split <;> exact fun h => nomatch h
  · exact fun h => nomatch h
theorem nx_notInK (x y : D) (z : Exc) : dNotInK x y ≠ .err z := by
  unfold dNotInK
  split
  · split <;> exact fun h => nomatch h
  · exact fun h => nomatch h
theorem opD_inK : OpD g (fun y x H Q => ∃ a o, x = .ref a ∧ DGet H a y o ∧ Q (.bl o.isSome) H) dInK := fun x y v w H A Q rx ry o => by
  cases y <;> first | exact o.elim | skip
  rename_i ks l
  have o2 : OutV g H A (match keyOf x with
    | some k => .ok (.bl ((ks.zip l).any fun kv => decide (kv.1 = k)))
    | none => .stuck) Q := o
  cases hk : keyOf x with
  | none => rw [hk] at o2; exact o2.elim
  | some k =>
    rw [hk] at o2
    obtain ⟨a, vs, rfl, h1, h2, h3, h4⟩ := toDic ry
    have e := ((RepK.of (vs := []) h3 h4).val k).1
    rw [keyOf_rep hk rx]
    exact ⟨a, _, rfl, DGet.k h2, by rw [e]; exact OutV.bl o2⟩
theorem opD_notInK : OpD g (fun y x H Q => ∃ a o, x = .ref a ∧ DGet H a y o ∧ Q (.bl (!o.isSome)) H) dNotInK := fun x y v w H A Q rx ry o => by
  cases y <;> first | exact o.elim | skip
  rename_i ks l
  have o2 : OutV g H A (match keyOf x with
    | some k => .ok (.bl (!(ks.zip l).any fun kv => decide (kv.1 = k)))
    | none => .stuck) Q := o
  cases hk : keyOf x with
  | none => rw [hk] at o2; exact o2.elim
  | some k =>
    rw [hk] at o2
    obtain ⟨a, vs, rfl, h1, h2, h3, h4⟩ := toDic ry
    have e := ((RepK.of (vs := []) h3 h4).val k).1
    rw [keyOf_rep hk rx]
    exact ⟨a, _, rfl, DGet.k h2, by rw [e]; exact OutV.bl o2⟩
end
section
variable {C : Ctx} {a b : Expr} {fa fb : ME} {fs : MA} {p pos : Pos}
theorem dDictE (hm : C.X.mg "dict" = none) (ha : DA C [a] fs) (hcm : C.X.calm = true := by rfl) (hg : Gl C.X "dict" := by rfl) (he : starEach [a] C.X.env = (false, eval a C.X.env) :: starEach [] C.X.env := by rfl) (hpl : (backTo pos (starEach [] C.X.env)).any (·.1) = false := by rfl) :
    DE C (.Call (.Name "dict" p) [a] [] pos) (eCall dDict fs) := pe_imp (pe_callTy (call_dictP hcm) hg hm (by decide +kernel) ha (by decide) (by decide) he hpl) (tD_call callD_dict nx_dict)
theorem dGetKE (ha : DE C a fa) (hb : DE C b fb) (hu : C.X.A.units + 65 < cLine) (hs : NoSl b := by exact fun _ _ => rfl) : DE C (.Subscript a b pos) (eOp dGetK fa fb) :=
  pe_imp (pe_dget (by omega) ha hb hs) (tD_op opD_getK nx_getK)
theorem dInKE (ha : DE C a fa) (hb : DE C b fb) (hu : C.X.A.units + 65 < cLine) (hm : behindInMarks .In b = false := by rfl) : DE C (.Compare a [.In] [b] pos) (eOp dInK fa fb) :=
  pe_imp (pe_cmp (pc_din (by omega) ha hb) hm) (tD_op opD_inK nx_inK)
theorem dNotInKE (ha : DE C a fa) (hb : DE C b fb) (hu : C.X.A.units + 65 < cLine) (hm : behindInMarks .NotIn b = false := by rfl) : DE C (.Compare a [.NotIn] [b] pos) (eOp dNotInK fa fb) :=
  pe_imp (pe_cmp (pc_dnotin (by omega) ha hb) hm) (tD_op opD_notInK nx_notInK)
theorem dInKT (ha : DE C a fa) (hb : DE C b fb) (hu : C.X.A.units + 65 < cLine) (hm : behindInMarks .In b = false := by rfl) : DT C (.Compare a [.In] [b] pos) (eTest (eOp dInK fa fb)) :=
  pt_imp (pt_cmp (pc_din (by omega) ha hb) hm) (tDT_test (tD_op opD_inK nx_inK))
theorem dNotInKT (ha : DE C a fa) (hb : DE C b fb) (hu : C.X.A.units + 65 < cLine) (hm : behindInMarks .NotIn b = false := by rfl) : DT C (.Compare a [.NotIn] [b] pos) (eTest (eOp dNotInK fa fb)) :=
  pt_imp (pt_cmp (pc_dnotin (by omega) ha hb) hm) (tDT_test (tD_op opD_notInK nx_notInK))
end
end DL

set_option Elab.async false
set_option linter.all false
set_option maxRecDepth 100000
set_option maxHeartbeats 2000000
/-! DLg: {k: v for k, v in pairs}; d.get(k, x). -/
namespace DL
open PySem PySem.Spec PyProof.Rows L2
theorem Paired.at' {α β : Type} {R : α → β → Prop} : ∀ {l : List α} {m : List β} {i : Nat} {a : α}, Paired R l m → l[i]? = some a → ∃ b, m[i]? = some b ∧ R a b
  | _, _, i, a, .nil, h => by cases i <;> cases h
  | _, _, 0, a, .cons r t, h => by cases h; exact ⟨_, rfl, r⟩
  | _, _, i + 1, a, .cons r t, h => by
    rw [List.getElem?_cons_succ] at h
    obtain ⟨b, h1, h2⟩ := Paired.at' t h
    exact ⟨b, by rw [List.getElem?_cons_succ]; exact h1, h2⟩
theorem Paired.len' {α β : Type} {R : α → β → Prop} : ∀ {l : List α} {m : List β}, Paired R l m → l.length = m.length
  | _, _, .nil => rfl
  | _, _, .cons r t => by rw [List.length_cons, List.length_cons, Paired.len' t]
theorem sqT_same {K : PySem.W.Frag} {H H' : Hp} {a : Addr} {xs : List V} (s : Same H H') (h : SqT K H a xs) : SqT K H' a xs := by
  rcases h with (h | ⟨o, h⟩) | h
  · exact .inl (.inl (s _ _ h))
  · exact .inl (.inr ⟨o, s _ _ h⟩)
  · exact .inr h
theorem mergeK_take {kvs : List (Key × V)} {i : Nat} {kv : Key × V} (h : kvs[i]? = some kv) : mergeK [] (kvs.take (i + 1)) = putK (mergeK [] (kvs.take i)) kv.1 kv.2 := by
  unfold mergeK
  rw [List.take_add_one, h, List.foldl_append]
  rfl
theorem putK_len (acc : List (Key × V)) (k : Key) (v : V) : (putK acc k v).length ≤ acc.length + 1 := by
  unfold putK
  split
  · rw [List.length_map]; omega
  · rw [List.length_append]; exact Nat.le_refl _
theorem mergeK_len : ∀ (kvs acc : List (Key × V)), (mergeK acc kvs).length ≤ acc.length + kvs.length
  | [], acc => Nat.le_refl _
  | kv :: kvs, acc => by
    have h1 := mergeK_len kvs (putK acc kv.1 kv.2)
    have h2 := putK_len acc kv.1 kv.2
    have e : mergeK acc (kv :: kvs) = mergeK (putK acc kv.1 kv.2) kvs := rfl
    rw [e, List.length_cons]
    omega
/-- the pairs of a list -/
def rPairs (K : PySem.W.Frag) : V → Hp → VK → Prop := fun x H Q => ∃ (a : Addr) (ps : List Addr) (kvs : List (Key × V)), x = .ref a ∧ SqL K H a (ps.map V.ref) ∧ Paired (fun p kv => SqT K H p [kV kv.1, kv.2]) ps kvs ∧ ps.length ≤ 1000 ∧ ∀ p, H p = none → Q (.ref p) (upd H p (.dK (mergeK [] kvs)))
theorem upd_twice {H : Hp} {D : Addr} {a b : HO} : upd (upd H D a) D b = upd H D b := by
  funext c
  by_cases h : c = D
  · subst h; rw [upd_same, upd_same]
  · rw [upd_ne h, upd_ne h, upd_ne h]
theorem dc_go {K : PySem.W.Frag} {x : V} {H1 : Hp} {Q : VK} {σ : L2.St} {vs : List Nat} {i j : Nat} (h : rPairs K x H1 Q) (hij : i ≠ j) (hiv : i ∈ vs) (hjv : j ∈ vs) (li : i < σ.length) (lj : j < σ.length) :
    ∃ a, x = .ref a ∧ (∃ xs, SqL K H1 a xs) ∧ ∀ D, H1 D = none → ∃ W : Nat → Nat → Hp → Prop, (∃ m, W 0 m (upd H1 D (.dK []))) ∧ ∀ n m H, W n m H →
      ((Itl K a).stop n H ∧ Q (.ref D) H) ∨ ((Itl K a).go n H ∧ ∃ Nx : Hp → Prop, (∀ H', Nx H' → ∃ m', m' < m ∧ W (n + 1) m' H') ∧ ∀ x H', (Itl K a).yld n H x H' → gTup K 2 (gCons (gName i) (gCons (gName j) gNil)) x (L2.wipe σ vs) H' fun σ2 H2 => L2.wipe σ2 vs = L2.wipe σ vs ∧ tYes σ2 H2 fun b H3 =>
        if b = true then tVar i σ2 H3 fun y H4 => tVar j σ2 H4 fun z H5 => ∃ kvs k, y = kV k ∧ H5 D = some (.dK kvs) ∧ kvs.length < sizeLine ∧ Nx (upd H5 D (.dK (putK kvs k z))) else Nx H3) := by
  obtain ⟨a, ps, kvs, rfl, hq, hp, hl, q⟩ := h
  refine ⟨a, rfl, ⟨_, hq⟩, fun D nD => ?_⟩
  have len := Paired.len' hp
  have sm : ∀ o, Same H1 (upd H1 D o) := fun o b ob e => by rw [upd_ne (ne_of_none e nD)]; exact e
  refine ⟨fun n m H => m = ps.length - n ∧ n ≤ ps.length ∧ H = upd H1 D (.dK (mergeK [] (kvs.take n))), ⟨ps.length, rfl, Nat.zero_le _, rfl⟩, ?_⟩
  rintro n m H ⟨rfl, hn, rfl⟩
  have hs := (sm (.dK (mergeK [] (kvs.take n)))).seq hq
  by_cases hlt : n < ps.length
  · refine .inr ⟨⟨_, _, hs, by rw [List.getElem?_map, List.getElem?_eq_getElem hlt]; rfl⟩, fun H' => H' = upd H1 D (.dK (mergeK [] (kvs.take (n + 1)))), fun H' e => ⟨ps.length - (n + 1), by omega, rfl, hlt, e⟩, ?_⟩
    rintro x H' ⟨rfl, y⟩
    have y1 := y _ hs
    rw [List.getElem?_map] at y1
    obtain ⟨p, hp1, rfl⟩ := Option.map_eq_some_iff.mp y1
    obtain ⟨kv, k1, k2⟩ := Paired.at' hp hp1
    refine ⟨p, [kV kv.1, kv.2], rfl, sqT_same (sm _) k2, rfl, ?_⟩
    show ∃ v r, [kV kv.1, kv.2] = v :: r ∧ ∃ v' r', r = v' :: r' ∧ r' = [] ∧ _
    refine ⟨_, _, rfl, _, _, rfl, rfl, ?_, ?_⟩
    · refine wipe_agree (by simp [wipe_length]) fun k hk => ?_
      rw [List.getElem?_set_ne (show j ≠ k from fun z => hk (z ▸ hjv)), List.getElem?_set_ne (show i ≠ k from fun z => hk (z ▸ hiv)), wipe_get' σ hk]
    · unfold tYes
      dsimp only
      rw [if_pos rfl]
      have wl : (L2.wipe σ vs).length = σ.length := wipe_length _ _
      refine ⟨kV kv.1, ?_, kv.2, ?_, _, kv.1, rfl, upd_same, ?_, ?_⟩
      · rw [List.getElem?_set_ne (Ne.symm hij), List.getElem?_set_self (by rw [wl]; exact li)]
      · rw [List.getElem?_set_self (by rw [List.length_set, wl]; exact lj)]
      · have h1 := mergeK_len (kvs.take n) []
        rw [List.length_take] at h1
        show _ < 16777216
        simp only [List.length_nil] at h1
        omega
      · rw [upd_twice, mergeK_take k1]
  · have e : n = ps.length := by omega
    subst e
    refine .inl ⟨⟨_, hs, by rw [List.length_map]; exact Nat.le_refl _⟩, ?_⟩
    rw [len, List.take_length]
    exact q D nD
theorem pairs_read {g : G} {H : Hp} {A : Addr → Prop} {l : List D} {v : V} {Q : VK} (h1 : Rep g H A (.lst l) v) (o : OutV g H A (dDict [.lst l]) Q) (hlen : l.length ≤ 1000) : rPairs g.K v H Q := by
  obtain ⟨a, ws, rfl, h3, h4, h5⟩ := h1.toLst
  have o' : OutV g H A (match pairsOf l with | some m => .ok (.dic ((mergeA [] m).map (·.1)) ((mergeA [] m).map (·.2))) | none => .stuck) Q := o
  cases hm : pairsOf l with
  | some m =>
    rw [hm] at o'
    have hw := h5.length
    obtain ⟨ps, kvs, rfl, h6, h7⟩ := pairsOf_rep hm h5
    rw [List.length_map] at hw
    refine ⟨a, ps, kvs, rfl, SqL.of h4, h6, by omega, fun p hp => ?_⟩
    obtain ⟨us, e1, e2, e3⟩ := (RepK.merge h7 RepK.nil).out
    have s : Same H (upd H p (.dK (mergeK [] kvs))) := fun a o e => by rw [upd_ne (ne_of_none e hp)]; exact e
    exact o' _ _ s (dic_ (.inr hp) (by rw [upd_same, e1]) e2 (e3.mono (.same s) fun a q _ => .inl q))
  | none => rw [hm] at o'; exact o'.elim
def eDcP (fa : ME) : ME := fun e g => (fa e g).bind fun p => match p.1 with
  | .lst l => if l.length ≤ 1000 then pureG (dDict [.lst l]) p.2 else .stuck
  | _ => .stuck
section
variable {C : Ctx}
theorem de_dcP {kn vn : Str} {iter : Expr} {fa : ME} {scope : Scope} {own : List (Str × Nat)} {pos p1 p2 p3 p4 p5 : Pos} {i j kk : Nat} (hc : C.X.calm = true) (hN : C.X.N.Nodup) (hi : DE C iter fa) (ok : BlkOk C.X.N C.X.env.scope scope own)
    (hg : ∀ (s : Shared) (H : Hp) (Ca : Addr) (cl : List (Str × Addr)) (fp : List Addr), PG (C.X.blk s H scope (compEnvC scope cl Ca C.X.env) fp) (.Tuple [.Name kn p3, .Name vn p4] kk p5) (gTup C.X.K 2 (gCons (gName i) (gCons (gName j) gNil))))
    (hk : ∀ (s : Shared) (H : Hp) (Ca : Addr) (cl : List (Str × Addr)) (fp : List Addr), PE (C.X.blk s H scope (compEnvC scope cl Ca C.X.env) fp) (.Name kn p1) (tVar i))
    (he : ∀ (s : Shared) (H : Hp) (Ca : Addr) (cl : List (Str × Addr)) (fp : List Addr), PE (C.X.blk s H scope (compEnvC scope cl Ca C.X.env) fp) (.Name vn p2) (tVar j)) (hij : i ≠ j) (hiv : i ∈ own.map (·.2)) (hjv : j ∈ own.map (·.2)) (li : i < C.X.N.length) (lj : j < C.X.N.length)
    (hs : ∀ x, foldedSetIterable iter C.X.env x = pure x := by intro _; rfl) :
    DE C (.DictComp (.Name kn p1) (.Name vn p2) [⟨.Tuple [.Name kn p3, .Name vn p4] kk p5, iter, [], 0⟩] scope pos) (eDcP fa) := by
  refine ⟨fun pins s σ H Q I ⟨own', F, e, g, S, o⟩ => (pe_dc hc hN (pi_list hi) ok hg (fun _ _ _ _ _ => pts_nil) hk he hs).run pins s σ H Q I ⟨own', F, e, g, S, OutE.bindE o fun d g1 H1 v x1 S1 r1 o1 => ?_⟩⟩
  have hl : σ.length = C.X.N.length := I.len
  cases d <;> first | exact o1.elim | skip
  rename_i l
  have o2 : OutE C own' F σ e H1 (if l.length ≤ 1000 then pureG (dDict [.lst l]) g1 else .stuck) Q := o1
  by_cases hlen : l.length ≤ 1000
  · rw [if_pos hlen] at o2
    have o3 := o2.toV S1 (nx_dict _)
    exact dc_go (σ := σ) (vs := own.map (·.2)) (pairs_read r1 o3 hlen) hij hiv hjv (by rw [hl]; exact li) (by rw [hl]; exact lj)
  · rw [if_neg hlen] at o2
    exact o2.elim
def dGetD (x y z : D) : Res D := match x with
  | .dic ks l => match keyOf y with
    | some k => .ok ((valA (ks.zip l) k).getD z)
    | none => .stuck
  | _ => .stuck
theorem nx_getD (x y z : D) (w : Exc) : dGetD x y z ≠ .err w := by
  unfold dGetD
  split
  · split <;> exact fun h => nomatch h
  · exact fun h => nomatch h
def eGet2 (fa fb fx : ME) : ME := fun e g => (fa e g).bind fun p => match p.1 with
  | .dic ks l => (fb e p.2).bind fun q => (fx e q.2).bind fun r => pureG (dGetD (.dic ks l) q.1 r.1) r.2
  | _ => .stuck
theorem dGet2E {o a x : Expr} {fa fb fx : ME} {apos cpos : Pos} (ho : DE C o fa) (ha : DE C a fb) (hx : DE C x fx) (hu : C.X.A.units + 65 < cLine) (m : M2 C.X o "get" apos a x cpos := by exact ⟨rfl, rfl, rfl, rfl⟩) : DE C (.Call (.Attribute o "get" apos) [a, x] [] cpos) (eGet2 fa fb fx) :=
  pe_imp (pe_dget2 (by omega) ho ha hx m) fun σ H Q ⟨own, F, e, g, S, o1⟩ => ⟨own, F, e, g, S, OutE.bindE o1 fun d g1 H1 v x1 S1 r1 o2 => by
    cases d <;> first | exact o2.elim | skip
    rename_i ks l
    obtain ⟨p, vs, rfl, h1, h2, h3, h4⟩ := toDic r1
    refine ⟨p, rfl, .inl ⟨_, .inl h2⟩, own, F, e, g1, S1, OutE.bindE o2 fun kd g2 H2 y x2 S2 r2 o3 => ⟨own, F, e, g2, S2, OutE.bindE o3 fun xd g3 H3 z x3 S3 r3 o4 => ?_⟩⟩
    have o5 := o4.toV S3 (nx_getD _ _ _)
    have r1' := S2.rep x3 (S1.rep x2 r1)
    obtain ⟨p', vs', ep, h1', h2', h3', h4'⟩ := toDic r1'
    cases ep
    unfold dGetD at o5
    cases hk : keyOf kd with
    | none => simp only [hk] at o5; exact o5.elim
    | some k =>
      simp only [hk] at o5
      have ev := (RepK.of (vs := []) h3' h4').val k
      rw [keyOf_rep hk r2]
      refine ⟨valV (ks.zip vs') k, DGet.k h2', ?_⟩
      cases hd : valA (ks.zip l) k with
      | none =>
        rw [hd] at o5
        have : valV (ks.zip vs') k = none := by
          cases hv : valV (ks.zip vs') k with
          | none => rfl
          | some u =>
            have e1 := ev.1
            rw [hv] at e1
            obtain ⟨kv, m1, m2⟩ := List.any_eq_true.mp e1.symm
            unfold valA at hd
            have := List.find?_eq_none.mp (Option.map_eq_none_iff.mp hd) kv m1
            exact absurd m2 this
        rw [this]
        exact o5.now r3
      | some d =>
        rw [hd] at o5
        obtain ⟨u, q1, q2⟩ := ev.2 d hd
        rw [q1]
        exact o5.now q2⟩
end
end DL

set_option Elab.async false
set_option linter.all false
set_option maxRecDepth 100000
/-! DLi: instances of the program's classes: fields, methods, making. -/
namespace DL
open PySem PySem.Spec PyProof.Rows L2
section
variable {g : G} {H : Hp} {A : Addr → Prop}
theorem toIns {c : Str} {ns : List Str} {l : List D} {v : V} (h : Rep g H A (.ins c ns l) v) : ∃ a Ca dx vs, v = .ref a ∧ A a ∧ g.cm c = some Ca ∧ H a = some (.ins Ca dx (ns.zip vs)) ∧ ns.length = vs.length ∧ RepL g H A l vs := by
  rw [Rep] at h
  exact h
theorem ins_ {c : Str} {ns : List Str} {l : List D} {a Ca dx : Addr} {vs : List V} (h : A a) (hc : g.cm c = some Ca) (e : H a = some (.ins Ca dx (ns.zip vs))) (n : ns.length = vs.length) (r : RepL g H A l vs) : Rep g H A (.ins c ns l) (.ref a) := by
  rw [Rep]
  exact ⟨a, Ca, dx, vs, rfl, h, hc, e, n, r⟩
theorem zip_lookI {n : Str} {d : D} : ∀ {ns : List Str} {l : List D} {vs : List V}, RepL g H A l vs → (ns.zip l).lookup n = some d → ∃ v, (ns.zip vs).lookup n = some v ∧ Rep g H A d v
  | [], l, vs, r, h => by cases h
  | m :: ns, [], vs, r, h => by cases h
  | m :: ns, x :: l, vs, r, h => by
    obtain ⟨v, vs', rfl, rv, rr⟩ := r.toCons
    rw [List.zip_cons_cons, List.lookup_cons] at h ⊢
    by_cases hm : (n == m) = true
    · rw [hm] at h ⊢
      cases h
      exact ⟨v, rfl, rv⟩
    · rw [Bool.not_eq_true] at hm
      rw [hm] at h ⊢
      exact zip_lookI rr h
theorem zip_look0 {n : Str} : ∀ {ns : List Str} {vs : List V}, n ∉ ns → (ns.zip vs).lookup n = none
  | [], vs, h => rfl
  | m :: ns, [], h => rfl
  | m :: ns, v :: vs, h => by
    rw [List.zip_cons_cons, List.lookup_cons]
    have : (n == m) = false := by
      rw [beq_eq_false_iff_ne]
      exact fun z => h (by rw [z]; exact List.mem_cons_self)
    rw [this]
    exact zip_look0 fun z => h (List.mem_cons_of_mem _ z)
end
/-! ### a field -/
def eFld (cls f : Str) (fa : ME) : ME := fun e g => (fa e g).bind fun p => match p.1 with
  | .ins c ns l => if c = cls then match (ns.zip l).lookup f with
      | some d => .ok (d, p.2)
      | none => .stuck
    else .stuck
  | _ => .stuck
section
variable {C : Ctx} {x : Expr} {fa : ME} {cls f : Str} {Ca : Addr} {pos : Pos}
theorem de_fld (hc : C.cm cls = some Ca) (cl : Cls C.X.K Ca) (no : NoAttr C.X.K Ca f) (ha : DE C x fa) (hb : attributeBase x f C.X.env (eval x C.X.env) = eval x C.X.env := by rfl) : DE C (.Attribute x f pos) (eFld cls f fa) :=
  pe_imp (pe_fld ha hb) fun σ H Q ⟨own, F, e, g, S, o⟩ => ⟨own, F, e, g, S, OutE.bindE o fun d g1 H1 v x1 S1 r1 o1 => by
    cases d <;> first | exact o1.elim | skip
    rename_i c ns l
    obtain ⟨a, C1, dx, vs, rfl, h1, h2, h3, h4, h5⟩ := toIns r1
    by_cases hcc : c = cls
    · simp only [hcc, if_true] at o1
      have e1 : C1 = Ca := by
        rw [hcc] at h2
        have : some C1 = some Ca := h2.symm.trans hc
        cases this; rfl
      subst e1
      cases hl : (ns.zip l).lookup f with
      | none => simp only [hl] at o1; exact o1.elim
      | some d =>
        simp only [hl] at o1
        obtain ⟨u, q1, q2⟩ := zip_lookI h5 hl
        exact ⟨a, C1, dx, _, u, rfl, h3, cl, no, q1, OutE.now S1 o1 q2⟩
    · simp only [hcc, if_false] at o1; exact o1.elim⟩
end
/-! ### methods -/
def tMethND (C : Addr) (m : Str) (n nk : Nat) (sp : Sp) (gV : List V → List V → List V) (E : L2.St → XK) (ta : TE) (t tk : TA) : TE := fun σ H Q => ta σ H fun x H1 => ∃ a dx fs, x = .ref a ∧ H1 a = some (.ins C dx fs) ∧ fs.lookup m = none ∧
  t σ H1 fun vs H2 => tk σ H2 fun zs H3 => vs.length = n ∧ zs.length = nk ∧ sp (gV (x :: vs) zs) H3 Q (E σ)
section
variable {X : Cx} {CX : CXT} {k n : Nat} {f Ca : Addr} {fd : FuncData} {ps ks : List Str} {sp : Sp} {E : L2.St → XK} {m : Str} {apos pos : Pos} {o e : Expr} {es : List Expr} {kws : List Keyword} {ta : TE} {t tk : TA} {g : List Value → List Value → List Value} {gV : List V → List V → List V}
theorem pe_methND {pl : Sem Bool} (he : PE X o ta) (c : Cls X.K Ca) (hm : Meth X.K Ca m f) (F : FnOk X.prog X.w X.K X.mg X.base CX k f fd ps sp) (hr : Room k X.A) (hb : KBn X.K fd ps (n + 1) ks g gV) (hx : ∀ σ, PassesAt CX X σ (E σ)) (ha : PA X (e :: es) t) (hkw : PK X kws tk)
    (hall : (backToKw pos (keywordEach kws X.env)).all (·.1.isSome) = true := by rfl) (hks : (backToKw pos (keywordEach kws X.env)).filterMap (·.1) = ks := by rfl)
    (hst : starEach (e :: es) X.env = (false, eval e X.env) :: starEach es X.env := by rfl)
    (hpl : ((backTo pos (starEach (e :: es) X.env)).any (·.1) || (backToKw pos (keywordEach kws X.env)).any (·.1.isNone)) = false := by rfl)
    (ht : eval (.Call (.Attribute o m apos) (e :: es) kws pos) X.env = (do
      let ov ← eval o X.env
      standAt apos.atName
      let (f, first) ← holding [ov] (getMethod ov m pl)
      callWith pos f first (backTo pos (starEach (e :: es) X.env)) (backToKw pos (keywordEach kws X.env))) := by rfl) :
    PE X (.Call (.Attribute o m apos) (e :: es) kws pos) (tMethND Ca m n ks.length sp gV E ta t tk) := by
  refine ⟨fun pins s σ H Q I h => ?_⟩
  refine PySem.W.methodCall_KW (pl := pl) (thn (he.run pins s σ H _ I h) fun u s1 ⟨x, H1, I1, rx, a, dx, fs, ex, ea, l, q⟩ => ?_) ht
  subst ex
  obtain rfl : u = Value.ref a := rx
  refine getmeth_ok I1 ea c hm l ?_
  refine PySem.W.callWith_KW (first := [.ref a]) (h₀ := X.base) I.ok.mod.kin hm.kp hall (thn (ha.run pos pins s1 σ H1 _ I1 q) fun us s2 ⟨vs, H2, I2, r, q2⟩ => ?_) hpl hst
  refine thn (hkw.run pos pins s2 σ H2 _ I2 q2) fun ws s3 ⟨zs, H3, I3, rz, l1, l2, q3⟩ => ⟨I3.kIn, ?_⟩
  rw [hks]
  exact run_fnND (us := .ref a :: us) (vs := .ref a :: vs) F hr hb (hx σ) I3 (.cons rfl r) rz (by rw [List.length_cons, l1]) l2 q3
theorem pe_methND0 {pl : Sem Bool} (he : PE X o ta) (c : Cls X.K Ca) (hm : Meth X.K Ca m f) (F : FnOk X.prog X.w X.K X.mg X.base CX k f fd ps sp) (hr : Room k X.A) (hb : KBn X.K fd ps 1 [] g gV) (hx : ∀ σ, PassesAt CX X σ (E σ))
    (ht : eval (.Call (.Attribute o m apos) [] [] pos) X.env = (do
      let ov ← eval o X.env
      standAt apos.atName
      let (f, first) ← holding [ov] (getMethod ov m pl)
      callWith pos f first (backTo pos (starEach [] X.env)) (backToKw pos (keywordEach [] X.env))) := by rfl) :
    PE X (.Call (.Attribute o m apos) [] [] pos) (tMethND Ca m 0 0 sp gV E ta tNil tNil) := by
  refine ⟨fun pins s σ H Q I h => ?_⟩
  refine PySem.W.methodCall_KW (pl := pl) (thn (he.run pins s σ H _ I h) fun u s1 ⟨x, H1, I1, rx, a, dx, fs, ex, ea, l, q⟩ => ?_) ht
  subst ex
  obtain rfl : u = Value.ref a := rx
  refine getmeth_ok I1 ea c hm l ?_
  obtain ⟨_, _, q3⟩ : (0 : Nat) = 0 ∧ (0 : Nat) = 0 ∧ sp (gV [.ref a] []) H1 Q (E σ) := q
  exact PySem.W.callWith_K0 (first := [.ref a]) I1.kIn hm.kp (run_fnND (us := [.ref a]) (vs := [.ref a]) (ws := []) (zs := []) F hr hb (hx σ) I1 (.cons rfl .nil) .nil rfl rfl q3)
end

abbrev CalM (P : Program) (w : World) (K : PySem.W.Frag) (mg : Str → Option Value) (base : Heap) (k : Nat) (nm qual : Str) (st : Stmt) (dvs : List V) (kws : List (Str × V)) (f : Addr) (ps : List Str) (sp : Sp) : Prop := ∃ fd, FnOk P w K mg base (L2N.CX P w) k f fd ps sp ∧ FunD K nm qual (defArgs st) (defBody st) (defScope st) dvs kws f fd
def eMethK (cls m : Str) (n nk : Nat) (f : List D → List D → Res D) (fa : ME) (fs fk : MA) : ME := fun e g => (fa e g).bind fun p => match p.1 with
  | .ins c ns l => if c = cls ∧ m ∉ ns then (fs e p.2).bind fun q => (fk e q.2).bind fun r => if q.1.length = n ∧ r.1.length = nk then pureG (f (.ins c ns l :: q.1) r.1) r.2 else .stuck
    else .stuck
  | _ => .stuck
section
variable {C : Ctx} {cls m nm qual : Str} {st : Stmt} {Ca f : Addr} {k n : Nat} {fa : ME} {fs fk : MA} {o a : Expr} {es : List Expr} {kws : List Keyword} {apos pos : Pos} {ps ks : List Str} {dvs msv : List V} {kd : List (Str × V)} {dd md : List D} {src : List Src} {mm : List D → Res D}
theorem methK_red (hc : C.cm cls = some Ca) (hdd : ∀ H A, RepL C.g H A dd dvs) (hmd : ∀ H A, RepL C.g H A md msv) {σ : L2.St} {H : Hp} {Q : VK} (h : tD C (eMethK cls m n ks.length (fun us ws => mm (picks .non us ws dd md src)) fa fs fk) σ H Q) :
    tMethND Ca m n ks.length (spD C.g mm) (fun vs zs => picks .non vs zs dvs msv src) (WE C.W) (tD C fa) (tDA C fs) (tDA C fk) σ H Q := by
  obtain ⟨own, F, e, g, S, o⟩ := h
  refine ⟨own, F, e, g, S, OutE.bindE o fun d g0 H0 v x0 S0 r0 o0 => ?_⟩
  cases d <;> first | exact o0.elim | skip
  rename_i c ns l
  by_cases hcc : c = cls ∧ m ∉ ns
  · simp only [hcc, not_false_iff, and_self, if_true] at o0
    obtain ⟨a, C1, dx, vs0, rfl, h1, h2, h3, h4, h5⟩ := toIns r0
    have e1 : C1 = Ca := by
      rw [hcc.1] at h2
      have : some C1 = some Ca := h2.symm.trans hc
      cases this; rfl
    subst e1
    refine ⟨a, dx, _, rfl, h3, zip_look0 hcc.2, own, F, e, g0, S0, OutE.bindA o0 fun l1 g1 H1 vs x1 S1 r1 o1 => ⟨own, F, e, g1, S1, OutE.bindA o1 fun l2 g2 H2 zs x2 S2 r2 o2 => ?_⟩⟩
    by_cases hl : l1.length = n ∧ l2.length = ks.length
    · simp only [hl, and_self, if_true] at o2
      have ri : Rep C.g H2 (C.Al own) (.ins cls ns l) (.ref a) := by
        have := S1.rep x2 (S0.rep x1 r0)
        rw [hcc.1] at this
        exact this
      exact ⟨r1.length.symm.trans hl.1, r2.length.symm.trans hl.2, C.Al own, _, rep_picks (.cons ri (S1.repL x2 r1)) r2 (hdd _ _) (hmd _ _) src, S2.tb, Al_tb, o2.toD S2⟩
    · simp only [hl, if_false] at o2
      exact o2.elim
  · simp only [hcc, if_false] at o0
    exact o0.elim
theorem dMethN {pl : Sem Bool} (FF : CalM C.X.prog C.X.w C.X.K C.X.mg C.X.base k nm qual st dvs kd f ps (spD C.g mm)) (hr : Room k C.X.A) (tk : L2N.Takes C.X C.W) (hc : C.cm cls = some Ca) (cl : Cls C.X.K Ca) (hm : Meth C.X.K Ca m f)
    (hb : ∀ fd, FunD C.X.K nm qual (defArgs st) (defBody st) (defScope st) dvs kd f fd → KBs C.X.K fd ps (n + 1) ks dvs msv src) (hdd : ∀ H A, RepL C.g H A dd dvs) (hmd : ∀ H A, RepL C.g H A md msv)
    (ho : DE C o fa) (ha : DA C (a :: es) fs) (hkw : DK C kws fk) (hall : (backToKw pos (keywordEach kws C.X.env)).all (·.1.isSome) = true := by rfl) (hks : (backToKw pos (keywordEach kws C.X.env)).filterMap (·.1) = ks := by rfl)
    (hst : starEach (a :: es) C.X.env = (false, eval a C.X.env) :: starEach es C.X.env := by rfl)
    (hpl : ((backTo pos (starEach (a :: es) C.X.env)).any (·.1) || (backToKw pos (keywordEach kws C.X.env)).any (·.1.isNone)) = false := by rfl)
    (ht : eval (.Call (.Attribute o m apos) (a :: es) kws pos) C.X.env = (do
      let ov ← eval o C.X.env
      standAt apos.atName
      let (f, first) ← holding [ov] (getMethod ov m pl)
      callWith pos f first (backTo pos (starEach (a :: es) C.X.env)) (backToKw pos (keywordEach kws C.X.env))) := by rfl) :
    DE C (.Call (.Attribute o m apos) (a :: es) kws pos) (eMethK cls m n ks.length (fun us ws => mm (picks .non us ws dd md src)) fa fs fk) := by
  obtain ⟨fd, F1, F2⟩ := FF
  obtain ⟨its, mv, hkb⟩ := hb fd F2
  exact pe_imp (pe_methND (E := WE C.W) ho cl hm F1 hr hkb (fun σ => L2N.passAt tk σ) ha hkw hall hks hst hpl ht) fun σ H Q h => methK_red hc hdd hmd h
theorem dMethN0 {pl : Sem Bool} (FF : CalM C.X.prog C.X.w C.X.K C.X.mg C.X.base k nm qual st dvs kd f ps (spD C.g mm)) (hr : Room k C.X.A) (tk : L2N.Takes C.X C.W) (hc : C.cm cls = some Ca) (cl : Cls C.X.K Ca) (hm : Meth C.X.K Ca m f)
    (hb : ∀ fd, FunD C.X.K nm qual (defArgs st) (defBody st) (defScope st) dvs kd f fd → KBs C.X.K fd ps 1 [] dvs msv src) (hdd : ∀ H A, RepL C.g H A dd dvs) (hmd : ∀ H A, RepL C.g H A md msv)
    (ho : DE C o fa)
    (ht : eval (.Call (.Attribute o m apos) [] [] pos) C.X.env = (do
      let ov ← eval o C.X.env
      standAt apos.atName
      let (f, first) ← holding [ov] (getMethod ov m pl)
      callWith pos f first (backTo pos (starEach [] C.X.env)) (backToKw pos (keywordEach [] C.X.env))) := by rfl) :
    DE C (.Call (.Attribute o m apos) [] [] pos) (eMethK cls m 0 0 (fun us ws => mm (picks .non us ws dd md src)) fa aNil aNil) := by
  obtain ⟨fd, F1, F2⟩ := FF
  obtain ⟨its, mv, hkb⟩ := hb fd F2
  refine pe_imp (pe_methND0 (E := WE C.W) ho cl hm F1 hr hkb (fun σ => L2N.passAt tk σ) ht) fun σ H Q h => ?_
  obtain ⟨own, F, e, g, S, o⟩ := h
  obtain ⟨own', F', e', g', S', o'⟩ := methK_red (ks := []) (fs := aNil) (fk := aNil) (n := 0) hc hdd hmd ⟨own, F, e, g, S, o⟩
  refine ⟨own', F', e', g', S', ?_⟩
  unfold OutE at o' ⊢
  cases hfa : fa e' g' with
  | ok p =>
    rw [hfa] at o'
    intro H2 v x S2 r2
    obtain ⟨a, dx, fs, h1, h2, h3, own3, F3, e3, g3, S3, o3⟩ := o' H2 v x S2 r2
    obtain ⟨own4, F4, e4, g4, S4, o4⟩ := o3 H2 [] (.refl H2) S3 .nil
    exact ⟨a, dx, fs, h1, h2, h3, o4 H2 [] (.refl H2) S4 .nil⟩
  | err y => rw [hfa] at o'; exact o'
  | stuck => rw [hfa] at o'; exact o'
end

/-! ### making: the new instance gets its one field last -/
def envI (n : Nat) (ds : List D) : En := .me :: (ds.map .sh ++ List.replicate (n - (ds.length + 1)) .un)
/-- what __init__ promises: the instance's field, behind it -/
def OutI1 (g : G) (H : Hp) (A : Addr → Prop) (x Ca dx : Addr) (f : Str) (E : XK) (r : Res D) (Q : VK) : Prop := match r with
  | .ok d => ∀ H' v, (∀ a o, H a = some o → a ≠ x → (∀ p ∈ g.tb, p.1 ≠ a) → H' a = some o) → Tabs g.tb H' → H' x = some (.ins Ca dx [(f, v)]) → Rep g H' (fun a => A a ∨ H a = none) d v → Q .non H'
  | .err y => ∀ H' c dd, SameT g.tb H H' → Tabs g.tb H' → RepX g H' (fun a => A a ∨ H a = none) y c dd → E c dd H'
  | .stuck => False
def spI1f (g : G) (Ca : Addr) (f : Str) (m : List D → Res D) : Sp := fun vs H Q E => ∃ (A : Addr → Prop) (ds : List D) (x dx : Addr) (ws : List V), vs = .ref x :: ws ∧ H x = some (.ins Ca dx []) ∧ RepL g H A ds ws ∧ ¬ A x ∧ Tabs g.tb H ∧ (∀ a, A a → ∀ p ∈ g.tb, p.1 ≠ a) ∧ OutI1 g H A x Ca dx f E (m ds) Q
/-- the body's first part, then the field -/
def runI1 (n k : Nat) (b : MS) (fe : ME) (ds : List D) : Res D := if ds.length + 1 = k then
    match b (envI n ds) g0 with
    | .ok (.nx e g) => match e[0]? with
      | some DL.Slot.me => (fe e g).bind fun p => .ok p.1
      | _ => .stuck
    | .err y => .err y
    | _ => .stuck
  else .stuck
section
variable {P : Program} {w : World} {K : PySem.W.Frag} {mg : Str → Option Value} {base : Heap} {cm : Str → Option Addr} {tb : List (Addr × Str)}
abbrev ctxI (P : Program) (w : World) (K : PySem.W.Frag) (mg : Str → Option Value) (base : Heap) (cm : Str → Option Addr) (tb : List (Addr × Str)) (N : List Str) (qual : Str) (scope : Scope) (f : Addr) (cdv : Value) (A : Around) (outer : List PySem.Env) (s : Shared) (H : Hp) (E : XK) (A0 : Addr → Prop) (x : Addr) : Ctx :=
  { X := cxOf (L2N.CX P w) P w K mg base N qual scope f cdv A outer s H E, cm := cm, tb := tb, W := fun c dd _ H' => E c dd H', H0 := H, A := A0, rg := none, me := some x }
theorem fn_spI1 {nm qual fld sl : Str} {st s1 : Stmt} {ve : Expr} {p1 p2 p3 : Pos} {dvs : List V} {kws : List (Str × V)} {f Ca : Addr} {fd : FuncData} {N ps : List Str} {k : Nat} (F : FunD K nm qual (defArgs st) (defBody st) (defScope st) dvs kws f fd) (S : FnScope N ps (defScope st)) (b : MS) (fe : ME)
    (hbody : defBody st = [s1, .Assign [.Attribute (.Name sl p1) fld p2] ve p3]) (hsl : N[0]? = some sl) (hvs : Vis (defScope st) sl) (cl : Cls K Ca) (no : NoAttr K Ca fld)
    (first : ∀ (cdv : Value) (A : Around) (outer : List PySem.Env) (s : Shared) (H : Hp) (E : XK) (A0 : Addr → Prop) (x : Addr), Room k (A.deeper (envOfC qual (defScope st) s.heap.objs.size f cdv)) → DS (ctxI P w K mg base cm tb N qual (defScope st) f cdv A outer s H E A0 x) s1 b)
    (val : ∀ (cdv : Value) (A : Around) (outer : List PySem.Env) (s : Shared) (H : Hp) (E : XK) (A0 : Addr → Prop) (x : Addr), Room k (A.deeper (envOfC qual (defScope st) s.heap.objs.size f cdv)) → DE (ctxI P w K mg base cm tb N qual (defScope st) f cdv A outer s H E A0 x) ve fe)
    (hs : ∀ (cdv : Value) (A : Around) (outer : List PySem.Env) (s : Shared) (H : Hp) (E : XK), swapsWith ve (some (.Attribute (.Name sl p1) fld p2)) p3.line (cxOf (L2N.CX P w) P w K mg base N qual (defScope st) f cdv A outer s H E).env = pure false)
    (hd1 : (sl == ("__debug__" : Str)) = false := by decide) (hcd : (sl == ("__classdict__" : Str)) = false := by decide) :
    FnOk P w K mg base (L2N.CX P w) (k + 1) f fd ps (spI1f ⟨K, cm, tb⟩ Ca fld (runI1 N.length ps.length b fe)) := by
  have len : ∀ vs H Q E, spI1f ⟨K, cm, tb⟩ Ca fld (runI1 N.length ps.length b fe) vs H Q E → vs.length = ps.length := fun vs H Q E ⟨A0, ds, x, dx, ws, e, hx, r, nx, _, _, o⟩ => by
    unfold runI1 at o
    by_cases h : ds.length + 1 = ps.length
    · subst e; rw [List.length_cons, ← r.length]; exact h
    · rw [if_neg h] at o; exact o.elim
  refine F.ok S len fun cdv A outer s H vs Q E hr h => ?_
  have hlen := len vs H Q E h
  obtain ⟨A0, ds, x, dx, ws, rfl, hx, rp, nx, tt, hT, o⟩ := id h
  have hd : ds.length + 1 = ps.length := by rw [← hlen, List.length_cons, rp.length]
  unfold runI1 at o
  rw [if_pos hd] at o
  let C : Ctx := ctxI P w K mg base cm tb N qual (defScope st) f cdv A outer s H E A0 x
  rw [hbody]
  refine ⟨_, pss_cons (first cdv A outer s H E A0 x hr) (pss_one (ps_fld (pe_var (i := 0) hsl hvs hd1 hcd) (val cdv A outer s H E A0 x hr) (hs cdv A outer s H E))), ?_⟩
  have io : ∀ a, C.io a → ∃ p ∈ tb, p.1 = a := fun a h => h.elim (fun ⟨c', z⟩ => by cases z) id
  have at0 : ∀ a, C.io a → ∃ o, H a = some o ∧ MutO o := fun a h => by
    obtain ⟨p, hp, rfl⟩ := io a h
    exact tt.at_ hp
  have niox : ¬ C.io x := fun hi => by
    obtain ⟨o, e, h⟩ := at0 x hi
    rw [hx] at e
    cases e
    rcases h with ⟨xs, z⟩ | ⟨xs, z⟩ <;> cases z
  have rp' : RepL C.g C.H0 (C.Al fun _ => none) ds ws := rp.mono (.same fun _ _ z => z) fun a q _ => ⟨.inl q, fun j h => (by cases h), fun hi => by
    obtain ⟨p, hp, z⟩ := io a hi
    exact hT a q p hp z⟩
  have hn : ps.length ≤ N.length := pre_le S
  have S0 : SR C (fun _ => none) (fun _ => none) H (L2.start N (.ref x :: ws)) (envI N.length ds) g0 := by
    refine ⟨?_, fun i s hs => ?_, fun i p h => ?_, fun i p h => ?_, fun i j p h => ?_, ⟨0, fun _ _ => rfl⟩, fun a o h _ => h, fun a o h => ?_, at0, tt, fun a h => ?_, fun r' c' z => ?_⟩
    · unfold L2.start envI; simp [rp.length]
    · unfold envI at hs
      cases i with
      | zero => cases hs; exact ⟨x, rfl, start_get rfl⟩
      | succ i =>
        rw [List.getElem?_cons_succ] at hs
        by_cases hi : i < ds.length
        · rw [List.getElem?_append_left (by simpa using hi), List.getElem?_map, List.getElem?_eq_getElem hi] at hs
          cases hs
          obtain ⟨v, h1, h2⟩ := rp'.get (List.getElem?_eq_getElem hi)
          exact ⟨v, start_get (by rw [List.getElem?_cons_succ]; exact h1), h2⟩
        · rw [List.getElem?_append_right (by simp; omega), List.getElem?_replicate] at hs
          split at hs
          · cases hs; trivial
          · cases hs
    · cases h
    · cases h
    · cases h
    · cases h
    · obtain ⟨o, e, _⟩ := at0 a h
      show H a ≠ none
      rw [e]; exact fun z => nomatch z
    · cases z
  have kp : ∀ {own' : Own} {F' H' : Hp} {σ' : L2.St} {e' : En} {g' : Rng}, SR C own' F' H' σ' e' g' → SameT tb H H' := fun S' a ob z n => S'.h0 a ob z fun hi => by
    obtain ⟨p, hp, e⟩ := io a hi
    exact n p hp e
  have ax : ∀ {own' : Own} {a : Addr}, C.Al own' a → a ≠ x := fun {own' a} q z => by
    rcases q.1 with q | q
    · exact nx (z ▸ q)
    · rw [z] at q
      have : H x = none := q
      rw [hx] at this; cases this
  have ex : ∀ {H' : Hp} {c dd} {y : Exc} {own' : Own}, SameT tb H H' → Tabs tb H' → RepX C.g H' (C.Al own') y c dd → (∀ H' c dd, SameT tb H H' → Tabs tb H' → RepX ⟨K, cm, tb⟩ H' (fun a => A0 a ∨ H a = none) y c dd → E c dd H') → E c dd H' := fun s t ⟨Ca, d, ws, h1, h2, h3, h4, h5, h6⟩ o => o _ _ _ s t ⟨Ca, d, ws, h1, h2, h3, h4, h5, h6.mono (.same fun _ _ z => z) fun a q _ => q.1⟩
  refine ⟨fun _ => none, fun _ => none, envI N.length ds, g0, S0, ?_⟩
  show OutS C _ (b (envI N.length ds) g0) _
  cases hb : b (envI N.length ds) g0 with
  | ok u =>
    rw [hb] at o
    cases u with
    | nx e g =>
      intro own' σ' H' S'
      cases he : e[0]? with
      | none => simp only [he] at o; exact o.elim
      | some s0 =>
        simp only [he] at o
        cases s0 <;> first | exact o.elim | skip
        have o1 : OutI1 ⟨K, cm, tb⟩ H A0 x Ca dx fld E ((fe e g).bind fun p => .ok p.1) Q := o
        refine ⟨own', _, e, g, S', ?_⟩
        unfold OutE
        cases hfe : fe e g with
        | ok p =>
          rw [hfe] at o1
          intro H1 v x1 S1 r1
          obtain ⟨x', e1, e2⟩ := S1.sl 0 _ he
          have : x' = x := by
            have : some x = some x' := e1
            cases this; rfl
          rw [this] at e2
          have hx1 : H1 x = some (.ins Ca dx []) := S1.h0 x _ hx niox
          refine ⟨.ref x, e2, x, Ca, dx, [], rfl, hx1, cl, no, by simp, ?_⟩
          refine o1 _ v (fun a ob z n n2 => ?_) (fun p hp => ?_) (by rw [upd_same]; rfl) (r1.mono ⟨fun a xs h => ?_, fun a ob q z => ?_⟩ fun a q _ => q.1)
          · rw [upd_ne n]; exact kp S1 a ob z n2
          · obtain ⟨qs, q1, q2, q3⟩ := S1.tb p hp
            refine ⟨qs, ?_, q2, fun pos cv hc => ?_⟩
            · rw [upd_ne (fun z => by rw [z, hx1] at q1; cases q1)]; exact q1
            · obtain ⟨c, e3, e4⟩ := q3 pos cv hc
              exact ⟨c, e3, by rw [upd_ne (fun z => by rw [z, hx1] at e4; unfold LamX.CodeO at e4; cases e4)]; exact e4⟩
          · rcases h with h | ⟨ob, h⟩
            · exact .inl (by rw [upd_ne (fun z => by rw [z, hx1] at h; cases h)]; exact h)
            · exact .inr ⟨ob, by rw [upd_ne (fun z => by rw [z, hx1] at h; cases h)]; exact h⟩
          · rw [upd_ne (ax q)]; exact z
        | err y =>
          rw [hfe] at o1
          exact fun H1 c dd x1 ⟨g', S1⟩ r1 => ex (kp S1) S1.tb r1 o1
        | stuck => rw [hfe] at o1; exact o1.elim
    | rt d g => exact o.elim
    | bk e g => exact o.elim
    | ct e g => exact o.elim
  | err y =>
    rw [hb] at o
    exact fun own' σ' e' g' H' c dd S' r' => ex (kp S') S'.tb r' o
  | stuck => rw [hb] at o; exact o.elim
end
/-! ### C(..) -/
def tMakeND (Ca : Addr) (n m : Nat) (sp : Sp) (gV : List V → List V → List V) (E : L2.St → XK) (t tk : TA) : TE := fun σ H Q => t σ H fun vs H1 => tk σ H1 fun zs H2 => vs.length = n ∧ zs.length = m ∧
  ∀ x dx, H2 x = none → H2 dx = none → dx ≠ x → sp (gV (.ref x :: vs) zs) (upd (upd H2 dx (.own x)) x (.ins Ca dx [])) (fun v H3 => v = .non ∧ Q (.ref x) H3) (E σ)
section
variable {X : Cx} {CX : CXT} {k n : Nat} {f Ca : Addr} {fd : FuncData} {ps ks : List Str} {sp : Sp} {E : L2.St → XK} {x : Str} {p pos : Pos} {e : Expr} {es : List Expr} {kws : List Keyword} {t tk : TA} {g : List Value → List Value → List Value} {gV : List V → List V → List V}
theorem run_makeND {pins : List (Addr × Obj)} {σ : L2.St} {H : Hp} {s : Shared} {Q : VK} {us ws : List Value} {vs zs : List V} (M : Mk X.K Ca f) (F : FnOk X.prog X.w X.K X.mg X.base CX k f fd ps sp) (hr : Room (k + 1) X.A) (hb : KBn X.K fd ps (n + 1) ks g gV)
    (hx : PassesAt CX X σ (E σ)) (I : Inv X pins σ H s) (r : Vals vs us) (rz : Vals zs ws) (l1 : vs.length = n) (l2 : zs.length = ks.length)
    (h : ∀ x dx, H x = none → H dx = none → dx ≠ x → sp (gV (.ref x :: vs) zs) (upd (upd H dx (.own x)) x (.ins Ca dx [])) (fun v H2 => v = .non ∧ Q (.ref x) H2) (E σ)) :
    wpAny (model X.prog X.w) X.A (call (.ref Ca) us (ks.zip ws)) (EP X pins σ Q) X.xe s := by
  have hq := h (s.heap.objs.size + 1) s.heap.objs.size (I.hok.fresh (Nat.le_succ _)) (I.hok.fresh (Nat.le_refl _)) (Nat.ne_of_lt (Nat.lt_succ_self _))
  have I2 := Inv.made (C := Ca) I
  have r1 : Vals (V.ref (s.heap.objs.size + 1) :: vs) (Value.ref (s.heap.objs.size + 1) :: us) := .cons rfl r
  have r2 := hb.rel r1 rz
  have e1 : (Value.ref (s.heap.objs.size + 1) :: us).length = n + 1 := r1.length.symm.trans (congrArg Nat.succ l1)
  have e2 : ws.length = ks.length := rz.length.symm.trans l2
  refine wpAny_call (make_map (f := f) I.kIn M.makes M.init (beq_iff_eq.mp M.fn) (codeAny_mono (F.run _ X.stack _ _ ⟨Value.ref (s.heap.objs.size + 1) :: us, ks.zip ws⟩ (g (Value.ref (s.heap.objs.size + 1) :: us) ws) _ _ (E σ) (hr.make Ca us (ks.zip ws))
    (I2.env0.make Ca us (ks.zip ws)) (hb.to _ (Value.ref (s.heap.objs.size + 1) :: us) ws I2.kIn e1 e2) r2 hq) fun r s' hq' => ?_))
  cases r with
  | error e => exact hx pins _ _ e s' I2 hq'
  | ok fl =>
    cases fl with
    | ret u =>
      obtain ⟨v, H', I3, rv, ev, q3⟩ := I2.after hq'
      subst ev
      exact ⟨rv, ⟨V.ref (s.heap.objs.size + 1), H', I3, rfl, q3⟩⟩
    | next => exact False.elim hq'
    | brk => exact False.elim hq'
    | cont => exact False.elim hq'
theorem pe_makeND (M : Mk X.K Ca f) (F : FnOk X.prog X.w X.K X.mg X.base CX k f fd ps sp) (hr : Room (k + 1) X.A) (hg : Gl X x) (hm : X.mg x = some (.ref Ca)) (hb : KBn X.K fd ps (n + 1) ks g gV) (hx : ∀ σ, PassesAt CX X σ (E σ))
    (ha : PA X (e :: es) t) (hkw : PK X kws tk) (hall : (backToKw pos (keywordEach kws X.env)).all (·.1.isSome) = true := by rfl) (hks : (backToKw pos (keywordEach kws X.env)).filterMap (·.1) = ks := by rfl)
    (hdb : (x == ("__debug__" : Str)) = false := by decide) (he : starEach (e :: es) X.env = (false, eval e X.env) :: starEach es X.env := by rfl)
    (hpl : ((backTo pos (starEach (e :: es) X.env)).any (·.1) || (backToKw pos (keywordEach kws X.env)).any (·.1.isNone)) = false := by rfl) :
    PE X (.Call (.Name x p) (e :: es) kws pos) (tMakeND Ca n ks.length sp gV E t tk) := by
  refine ⟨fun pins s σ H Q I h => ?_⟩
  refine wpAny_Call_Name_kw (ld_glob I hg hm ?_ hdb)
  refine PySem.W.callWith_KW (h₀ := X.base) I.ok.mod.kin M.kp hall (thn (ha.run pos pins s σ H _ I h) fun us s1 ⟨vs, H1, I1, r, q⟩ => ?_) hpl he
  refine thn (hkw.run pos pins s1 σ H1 _ I1 q) fun ws s2 ⟨zs, H2, I2, rz, l1, l2, q2⟩ => ⟨I2.kIn, ?_⟩
  rw [hks]
  exact run_makeND M F hr hb (hx σ) I2 r rz l1 l2 q2
theorem pe_makeND0 (M : Mk X.K Ca f) (F : FnOk X.prog X.w X.K X.mg X.base CX k f fd ps sp) (hr : Room (k + 1) X.A) (hg : Gl X x) (hm : X.mg x = some (.ref Ca)) (hb : KBn X.K fd ps 1 ks g gV) (hx : ∀ σ, PassesAt CX X σ (E σ))
    (hkw : PK X kws tk) (hall : (backToKw pos (keywordEach kws X.env)).all (·.1.isSome) = true := by rfl) (hks : (backToKw pos (keywordEach kws X.env)).filterMap (·.1) = ks := by rfl)
    (hdb : (x == ("__debug__" : Str)) = false := by decide) (hpl : ((backTo pos (starEach [] X.env)).any (·.1) || (backToKw pos (keywordEach kws X.env)).any (·.1.isNone)) = false := by rfl) :
    PE X (.Call (.Name x p) [] kws pos) (tMakeND Ca 0 ks.length sp gV E tNil tk) := by
  refine ⟨fun pins s σ H Q I h => ?_⟩
  refine wpAny_Call_Name_kw (ld_glob I hg hm ?_ hdb)
  refine PySem.W.callWith_KW0 (h₀ := X.base) I.ok.mod.kin M.kp hall ?_ hpl
  refine thn (hkw.run pos pins s σ H _ I h) fun ws s2 ⟨zs, H2, I2, rz, l1, l2, q2⟩ => ⟨I2.kIn, ?_⟩
  rw [hks]
  exact run_makeND (n := 0) M F hr hb (hx σ) I2 .nil rz l1 l2 q2
end
def eMakeK (cls fld : Str) (n nk : Nat) (f : List D → List D → Res D) (fs fk : MA) : ME := fun e g => (fs e g).bind fun q => (fk e q.2).bind fun r => if q.1.length = n ∧ r.1.length = nk then (f q.1 r.1).bind fun d => .ok (.ins cls [fld] [d], r.2) else .stuck
section
variable {C : Ctx} {cls fld nm qual x : Str} {st : Stmt} {Ca f : Addr} {k n : Nat} {fs fk : MA} {a : Expr} {es : List Expr} {kws : List Keyword} {p pos : Pos} {ps ks : List Str} {dvs msv : List V} {kd : List (Str × V)} {dd md : List D} {src : List Src} {mm : List D → Res D}
theorem makeK_red (hc : C.cm cls = some Ca) (hdd : ∀ H A, RepL C.g H A dd dvs) (hmd : ∀ H A, RepL C.g H A md msv) (hp : ∀ (z : V) (vs zs : List V), picks .non (z :: vs) zs dvs msv src = picks .non (.non :: vs) zs dvs msv src)
    {σ : L2.St} {H : Hp} {Q : VK} (h : tD C (eMakeK cls fld n ks.length (fun us ws => mm (picks .non (.non :: us) ws dd md src)) fs fk) σ H Q) :
    tMakeND Ca n ks.length (spI1f C.g Ca fld mm) (fun vs zs => picks .non vs zs dvs msv (.p 0 :: src)) (WE C.W) (tDA C fs) (tDA C fk) σ H Q := by
  obtain ⟨own, F, e, g, S, o⟩ := h
  refine ⟨own, F, e, g, S, OutE.bindA o fun l1 g1 H1 vs x1 S1 r1 o1 => ⟨own, F, e, g1, S1, OutE.bindA o1 fun l2 g2 H2 zs x2 S2 r2 o2 => ?_⟩⟩
  by_cases hl : l1.length = n ∧ l2.length = ks.length
  · simp only [hl, and_self, if_true] at o2
    refine ⟨r1.length.symm.trans hl.1, r2.length.symm.trans hl.2, fun y dx ny nd hne => ?_⟩
    have hne' : y ≠ dx := fun z => hne z.symm
    have s3 : Same H2 (upd (upd H2 dx (.own y)) y (.ins Ca dx [])) := fun a o z => by rw [upd_ne (ne_of_none z ny), upd_ne (ne_of_none z nd)]; exact z
    have base := rep_picks (.cons .non_ (S1.repL x2 r1)) r2 (hdd H2 (C.Al own)) (hmd H2 (C.Al own)) src
    refine ⟨fun a => C.Al own a ∧ ∃ o, H2 a = some o, _, y, dx, _, ?_, upd_same, (base.mono (.same s3) fun a q z => ⟨q, z⟩), fun z => ?_, S2.tb.ext s3, fun a q p hp => Al_tb a q.1 p hp, ?_⟩
    · show (V.ref y) :: picks .non (V.ref y :: vs) zs dvs msv src = _
      rw [hp]
    · obtain ⟨_, o, z2⟩ := z
      rw [ny] at z2; cases z2
    · have back : ∀ {H' : Hp}, (∀ a o, upd (upd H2 dx (.own y)) y (.ins Ca dx []) a = some o → a ≠ y → (∀ p ∈ C.g.tb, p.1 ≠ a) → H' a = some o) → SameT C.tb H2 H' := fun s a o z n => s a o (s3 a o z) (ne_of_none z ny) n
      have al : ∀ {a : Addr}, ((C.Al own a ∧ ∃ o, H2 a = some o) ∨ upd (upd H2 dx (.own y)) y (.ins Ca dx []) a = none) → C.Al own a := fun {a} q => q.elim (·.1) fun z => S2.fresh (by
        cases hz : H2 a with
        | none => rfl
        | some o => rw [s3 a o hz] at z; cases z)
      cases hm : mm (picks .non (.non :: l1) l2 dd md src) with
      | ok d =>
        rw [hm] at o2
        intro H' v s t hx rv
        have c := S2.call (back s) t
        exact ⟨rfl, o2 H' _ c.1 c.2 (ins_ (vs := [v]) (S2.fresh ny) hc hx rfl (.cons (rv.mono (.same fun _ _ z => z) fun a q _ => al q) .nil))⟩
      | err y' =>
        rw [hm] at o2
        intro H' c dd' s t ⟨Cb, d, ws, q1, q2, q3, q4, q5, q6⟩
        have cc := S2.call (back fun a o z _ n => s a o z n) t
        exact o2 H' c dd' cc.1 ⟨g2, cc.2⟩ ⟨Cb, d, ws, q1, q2, q3, q4, q5, q6.mono (.same fun _ _ z => z) fun a q _ => al q⟩
      | stuck => rw [hm] at o2; exact o2.elim
  · simp only [hl, if_false] at o2
    exact o2.elim
theorem dMakeN (FF : CalM C.X.prog C.X.w C.X.K C.X.mg C.X.base k nm qual st dvs kd f ps (spI1f C.g Ca fld mm)) (hr : Room (k + 1) C.X.A) (tk : L2N.Takes C.X C.W) (hc : C.cm cls = some Ca) (M : Mk C.X.K Ca f) (hm : C.X.mg x = some (.ref Ca))
    (hb : ∀ fd, FunD C.X.K nm qual (defArgs st) (defBody st) (defScope st) dvs kd f fd → KBs C.X.K fd ps (n + 1) ks dvs msv (.p 0 :: src)) (hdd : ∀ H A, RepL C.g H A dd dvs) (hmd : ∀ H A, RepL C.g H A md msv) (hp : ∀ (z : V) (vs zs : List V), picks .non (z :: vs) zs dvs msv src = picks .non (.non :: vs) zs dvs msv src)
    (ha : DA C (a :: es) fs) (hkw : DK C kws fk) (hg : Gl C.X x := by rfl) (hall : (backToKw pos (keywordEach kws C.X.env)).all (·.1.isSome) = true := by rfl) (hks : (backToKw pos (keywordEach kws C.X.env)).filterMap (·.1) = ks := by rfl)
    (hdb : (x == ("__debug__" : Str)) = false := by decide) (he : starEach (a :: es) C.X.env = (false, eval a C.X.env) :: starEach es C.X.env := by rfl)
    (hpl : ((backTo pos (starEach (a :: es) C.X.env)).any (·.1) || (backToKw pos (keywordEach kws C.X.env)).any (·.1.isNone)) = false := by rfl) :
    DE C (.Call (.Name x p) (a :: es) kws pos) (eMakeK cls fld n ks.length (fun us ws => mm (picks .non (.non :: us) ws dd md src)) fs fk) := by
  obtain ⟨fd, F1, F2⟩ := FF
  obtain ⟨its, mv, hkb⟩ := hb fd F2
  exact pe_imp (pe_makeND (E := WE C.W) M F1 hr hg hm hkb (fun σ => L2N.passAt tk σ) ha hkw hall hks hdb he hpl) fun σ H Q h => makeK_red hc hdd hmd hp h
end
end DL

set_option Elab.async false
set_option linter.all false
set_option maxRecDepth 100000
/-! DLj: isinstance by a class of the program; == by its own __eq__. -/
namespace DL
open PySem PySem.Spec PyProof.Rows L2
/-! ### isinstance -/
structure IsoC (K : PySem.W.Frag) (cm : Str → Option Addr) (ns : List Str) (cls : Str) (Ca : Addr) : Prop where
  ty : ∀ t ∈ bTys, PySem.W.kitOne K (.type t) (.ref Ca) = some false ∧ PySem.W.notFirst K Ca (.type t) = true
  own : ∀ c ∈ ns, ∀ C, cm c = some C → Cls K C ∧ PySem.W.findIn K (.ref C) "__class__" = some (some (.builtin "object.__class__")) ∧ PySem.W.mroIn K C (.type "object") = some true ∧ PySem.W.kitOne K (.ref C) (.ref Ca) = some (decide (c = cls)) ∧ PySem.W.notFirst K Ca (.ref C) = true
  sp : PySem.W.specialIn K (.builtin "object.__class__") "__get__" = some (some (.builtin "getset_descriptor.__get__"))
  tk : PySem.W.takesIn K (.builtin "object.__class__") = some true
def dIsO (ns : List Str) (cls : Str) : D → Res D
  | .ins c _ _ => if c ∈ ns then .ok (.bl (decide (c = cls))) else .stuck
  | _ => .ok (.bl false)
def eIsO (ns : List Str) (cls : Str) (f : ME) : ME := fun e g => (f e g).bind fun p => pureG (dIsO ns cls p.1) p.2
section
variable {C : Ctx} {own : Own} {H : Hp} {d b : D} {v : V} {ns : List Str} {cls : Str} {Ca : Addr}
theorem tyx_own (r : Rep C.g H (C.Al own) d v) (I : IsoC C.X.K C.cm ns cls Ca) (h : dIsO ns cls d = .ok b) : ∃ (u : Value) (z : Bool), b = .bl z ∧ TyX C.X.K H v u ∧ PySem.W.kitOne C.X.K u (.ref Ca) = some z ∧ PySem.W.notFirst C.X.K Ca u = true := by
  have ty := fun t ht => I.ty t ht
  cases d with
  | non => cases h; rw [r.toNon]; exact ⟨_, _, rfl, .base .non, (ty "NoneType" (by decide)).1, (ty "NoneType" (by decide)).2⟩
  | bl b => cases h; rw [r.toBl]; exact ⟨_, _, rfl, .base (.bl b), (ty "bool" (by decide)).1, (ty "bool" (by decide)).2⟩
  | int b => cases h; rw [r.toInt]; exact ⟨_, _, rfl, .base (.int b), (ty "int" (by decide)).1, (ty "int" (by decide)).2⟩
  | str b => cases h; rw [r.toStr]; exact ⟨_, _, rfl, .base (.str b), (ty "str" (by decide)).1, (ty "str" (by decide)).2⟩
  | tup l =>
    cases h
    obtain ⟨a, vs, rfl, h1, h2⟩ := r.toTup
    refine ⟨.type "tuple", _, rfl, ?_, (ty "tuple" (by decide)).1, (ty "tuple" (by decide)).2⟩
    rcases h1 with (h | ⟨o, h⟩) | ⟨o, its, n, h3, h4, _⟩
    · exact .base (.tup h)
    · exact .fTuple h
    · exact .kTuple h3 h4
  | lst l =>
    cases h
    obtain ⟨a, vs, rfl, h0, h1, h2⟩ := r.toLst
    exact ⟨.type "list", _, rfl, .base (.lst h1), (ty "list" (by decide)).1, (ty "list" (by decide)).2⟩
  | dic ks l =>
    cases h
    rw [Rep] at r
    obtain ⟨a, vs, rfl, h0, h1, h2⟩ := r
    exact ⟨.type "dict", _, rfl, .base (.dK h1), (ty "dict" (by decide)).1, (ty "dict" (by decide)).2⟩
  | ins c fs l =>
    obtain ⟨a, C1, dx, vs, rfl, h1, h2, h3, h4, h5⟩ := toIns r
    have h : (if c ∈ ns then Res.ok (D.bl (decide (c = cls))) else Res.stuck) = .ok b := h
    by_cases hc : c ∈ ns
    · rw [if_pos hc] at h
      cases h
      obtain ⟨q1, q2, q3, q4, q5⟩ := I.own c hc C1 h2
      exact ⟨.ref C1, _, rfl, .base (.ins h3 q1 q2 I.sp I.tk q3), q4, q5⟩
    · rw [if_neg hc] at h; cases h
end
section
variable {C : Ctx} {a : Expr} {fa : ME} {p pos : Pos} {ns : List Str} {cls : Str} {Ca : Addr}
theorem dIsOE {q : Pos} (I : IsoC C.X.K C.cm ns cls Ca) (hm : C.X.mg "isinstance" = none) (hc : C.X.mg cls = some (.ref Ca)) (ha : DE C a fa) (hg : Gl C.X "isinstance" := by rfl) (hgc : Gl C.X cls := by rfl) (hdc : (cls == ("__debug__" : Str)) = false := by decide)
    (he : starEach [a, .Name cls q] C.X.env = (false, eval a C.X.env) :: starEach [.Name cls q] C.X.env := by rfl) (he2 : starEach [.Name cls q] C.X.env = (false, eval (.Name cls q) C.X.env) :: starEach [] C.X.env := by rfl)
    (hpl : (backTo pos (starEach [.Name cls q] C.X.env)).any (·.1) = false := by rfl) : DE C (.Call (.Name "isinstance" p) [a, .Name cls q] [] pos) (eIsO ns cls fa) :=
  pe_imp (pe_callB call_isi hg hm bb_isi (pa_cons ha (pa_cons (pe_glob (v := .ref Ca) hgc hc rfl hdc) pa_nil he2) he) (by decide) (by decide) he hpl) fun σ H Q ⟨own, F, e, g, S, o⟩ => ⟨own, F, e, g, S, OutE.bindE o fun d g1 H1 v x1 S1 r1 o1 => by
    cases hd : dIsO ns cls d with
    | ok b =>
      rw [hd] at o1
      obtain ⟨u, z, rfl, h1, h2, _⟩ := tyx_own r1 I hd
      exact ⟨v, .ref Ca, u, .ref Ca, z, rfl, .own _, h1, h2, OutE.now S1 o1 (.bl_ _)⟩
    | err y => exact absurd hd (by unfold dIsO; split <;> (try split) <;> exact fun h => nomatch h)
    | stuck => rw [hd] at o1; exact o1.elim⟩
end
/-! ### == by __eq__ -/
def rEqI (X : Cx) (C : Addr) (sp : Sp) : R2 := fun x y H Q => ∃ a dx fs t, x = .ref a ∧ H a = some (.ins C dx fs) ∧ TyX X.K H y t ∧ PySem.W.notFirst X.K C t = true ∧ sp [x, y] H (fun v H' => (∃ b, v = .bl b) ∧ Q v H') E0
theorem op_eqI {X : Cx} {n : Nat} {Ca f : Addr} {fd : FuncData} {ps : List Str} {sp : Sp} (F : FnOk X.prog X.w X.K X.mg X.base (L2N.CX X.prog X.w) n f fd ps sp) (hm : Meth X.K Ca "__eq__" f) (hb : L2.Binds X.K fd ps []) (hr : Room n X.A) : OpR X (compareOp .Eq) (rEqI X Ca sp) := by
  intro pins s σ H x y v u Q I rx ry hq
  obtain ⟨a, dx, fs, t, rfl, ha, ty, nf, hsp⟩ := hq
  show wpAny (model X.prog X.w) X.A (richCompare .Eq v u) (EP X pins σ Q) X.xe s
  cases rx
  obtain ⟨P, Z, pp, hx⟩ := kit_of I ry ty
  obtain ⟨mA, J, _⟩ := ins_get I.hok ha
  obtain ⟨od, J, _⟩ := J.look
  obtain ⟨m, hF⟩ := I.fr
  refine PySem.W.cmp_K (op := .Eq) (tb := t) hr.units0 hF I.ok.mod.kin J (Z.ty _ _ I.kIn pp) nf hm.at_ hm.fn ?_
  have hl := F.len _ _ _ _ hsp
  have r2 : Vals [V.ref a, y] [Value.ref a, u] := .cons rfl (.cons ry .nil)
  refine wpAny_call (codeAny_mono (F.run X.A X.stack s H ⟨[.ref a, u], []⟩ [.ref a, u] [.ref a, y] _ E0 hr I.env0 (by
    have := hb s [.ref a, u] I.kIn (by simpa using hl)
    simpa using this) r2 hsp) fun r s' hq => ?_)
  cases r with
  | error e => exact passN pins σ H s e s' I hq
  | ok fl =>
    cases fl with
    | ret w =>
      obtain ⟨z, H', I', rz, ⟨b, ez⟩, q⟩ := I.after hq
      subst ez
      cases rz
      exact ⟨.bl b, H', I', rfl, q⟩
    | next => exact False.elim hq
    | brk => exact False.elim hq
    | cont => exact False.elim hq
def dEqI (ns : List Str) (cls : Str) (m : List D → Res D) (x y : D) : Res D := match x with
  | .ins c _ _ => if c = cls then (match dIsO ns cls y with
      | .ok _ => (match m [x, y] with
        | .ok (.bl b) => .ok (.bl b)
        | _ => .stuck)
      | _ => .stuck) else .stuck
  | _ => .stuck
theorem nx_eqI {ns : List Str} {cls : Str} {m : List D → Res D} (x y : D) (z : Exc) : dEqI ns cls m x y ≠ .err z := by
  unfold dEqI
  split <;> (try split) <;> (try split) <;> (try split) <;> exact fun h => nomatch h
section
variable {C : Ctx} {a b : Expr} {fa fb : ME} {pos : Pos} {ns : List Str} {cls nm qual : Str} {Ca f : Addr} {k : Nat} {st : Stmt} {dvs : List V} {kd : List (Str × V)} {ps : List Str} {mm : List D → Res D}
theorem eqI_red (hc : C.cm cls = some Ca) (I : IsoC C.X.K C.cm ns cls Ca) : ∀ σ H Q, tD C (eOp (dEqI ns cls mm) fa fb) σ H Q → tOp (rEqI C.X Ca (spD C.g mm)) (tD C fa) (tD C fb) σ H Q :=
  fun σ H Q ⟨own, F, e, g, S, o⟩ => ⟨own, F, e, g, S, OutE.bindE o fun x g1 H1 v x1 S1 r1 o1 => ⟨own, F, e, g1, S1, OutE.bindE o1 fun y g2 H2 w x2 S2 r2 o2 => by
    have r1' := S1.rep x2 r1
    unfold dEqI at o2
    cases x <;> first | exact o2.elim | skip
    rename_i c fs l
    by_cases hcc : c = cls
    · simp only [hcc, if_true] at o2
      cases hi : dIsO ns cls y with
      | ok bb =>
        simp only [hi] at o2
        obtain ⟨u, z, _, h1, h2, h3⟩ := tyx_own r2 I hi
        have r1c := r1'
        rw [hcc] at r1c
        obtain ⟨a, C1, dx, vs, rfl, q1, q2, q3, q4, q5⟩ := toIns r1c
        have e1 : C1 = Ca := by
          have : some C1 = some Ca := q2.symm.trans hc
          cases this; rfl
        subst e1
        cases hmm : mm [D.ins cls fs l, y] with
        | ok d =>
          cases d <;> simp only [hmm] at o2 <;> first | exact o2.elim | skip
          rename_i bv
          refine ⟨a, dx, _, u, rfl, q3, h1, h3, C.Al own, [D.ins cls fs l, y], .cons r1c (.cons r2 .nil), S2.tb, Al_tb, ?_⟩
          rw [hmm]
          intro H' v' s t rv
          obtain rfl := rv.toBl
          refine ⟨⟨bv, rfl⟩, ?_⟩
          have c := S2.call s t
          exact o2 H' _ c.1 c.2 (.bl_ _)
        | err z => simp only [hmm] at o2; exact o2.elim
        | stuck => simp only [hmm] at o2; exact o2.elim
      | err z => simp only [hi] at o2; exact o2.elim
      | stuck => simp only [hi] at o2; exact o2.elim
    · simp only [hcc, if_false] at o2
      exact o2.elim⟩⟩
theorem dEqIE (FF : CalM C.X.prog C.X.w C.X.K C.X.mg C.X.base k nm qual st dvs kd f ps (spD C.g mm)) (hr : Room k C.X.A) (hc : C.cm cls = some Ca) (I : IsoC C.X.K C.cm ns cls Ca) (hm : Meth C.X.K Ca "__eq__" f)
    (hb : ∀ fd, FunD C.X.K nm qual (defArgs st) (defBody st) (defScope st) dvs kd f fd → L2.Binds C.X.K fd ps []) (ha : DE C a fa) (hbb : DE C b fb) (hmk : behindInMarks .Eq b = false := by rfl) : DE C (.Compare a [.Eq] [b] pos) (eOp (dEqI ns cls mm) fa fb) := by
  obtain ⟨fd, F1, F2⟩ := FF
  exact pe_imp (pe_cmpR (op_eqI F1 hm (hb fd F2) hr) ha hbb hmk) (eqI_red hc I)
theorem dEqIT (FF : CalM C.X.prog C.X.w C.X.K C.X.mg C.X.base k nm qual st dvs kd f ps (spD C.g mm)) (hr : Room k C.X.A) (hc : C.cm cls = some Ca) (I : IsoC C.X.K C.cm ns cls Ca) (hm : Meth C.X.K Ca "__eq__" f)
    (hb : ∀ fd, FunD C.X.K nm qual (defArgs st) (defBody st) (defScope st) dvs kd f fd → L2.Binds C.X.K fd ps []) (ha : DE C a fa) (hbb : DE C b fb) (hmk : behindInMarks .Eq b = false := by rfl) : DT C (.Compare a [.Eq] [b] pos) (eTest (eOp (dEqI ns cls mm) fa fb)) := by
  obtain ⟨fd, F1, F2⟩ := FF
  exact pt_imp (pt_cmpR (op_eqI F1 hm (hb fd F2) hr) ha hbb hmk) (tDT_test (eqI_red hc I))
end
end DL

set_option Elab.async false
set_option linter.all false
set_option maxRecDepth 100000
/-! DLk: dict(zip(keys, values)). -/
namespace DL
open PySem PySem.Spec PyProof.Rows L2
theorem boot_dictT : bootBuiltins "dict" = some (.type "dict") := by decide +kernel
theorem kv_zip {P : Program} {w : World} {s : Shared} : ∀ {ks : List Key} {its : List Value} {ys : List V} {its2 : List Value}, Vals (ks.map kV) its → Vals ys its2 → L2.KV (ks.zip ys) (ks.zip its2) ∧ (∀ (i : Nat) (key v : Value), its[i]? = some key → its2[i]? = some v → ∃ k, (ks.zip its2)[i]? = some (k, v) ∧ keyIs k key = true)
  | [], its, ys, its2, h, h2 => by
    rw [List.map_nil] at h
    cases h
    exact ⟨.nil, fun i key v e => by simp at e⟩
  | k :: ks, its, ys, its2, h, h2 => by
    rw [List.map_cons] at h
    cases h with
    | cons r t =>
      cases h2 with
      | nil => exact ⟨.nil, fun i key v e e2 => by simp at e2⟩
      | cons r2 t2 =>
        obtain ⟨i1, i2⟩ := kv_zip (P := P) (w := w) (s := s) t t2
        refine ⟨.cons ⟨rfl, r2⟩ i1, fun i key v e e2 => ?_⟩
        cases i with
        | zero =>
          simp at e e2
          subst e e2
          exact ⟨k, rfl, kV_is (P := P) (w := w) r⟩
        | succ i =>
          simp at e e2
          obtain ⟨k', q1, q2⟩ := i2 i key v e e2
          exact ⟨k', by simpa using q1, q2⟩
def tDictZip (K : PySem.W.Frag) (ta : TA) : TE := fun σ H Q => ta σ H fun vs H1 => ∃ (a b : Addr) (ks : List Key) (ys : List V), vs = [.ref a, .ref b] ∧ SqL K H1 a (ks.map kV) ∧ SqL K H1 b ys ∧ ∀ p, H1 p = none → Q (.ref p) (upd H1 p (.dK (mergeK [] (ks.zip ys))))
theorem pe_dictZip {X : Cx} {e e2 : Expr} {ta : TA} {p p2 pos pos2 : Pos} (hc : X.calm = true) (hg : Gl X "dict") (hm : X.mg "dict" = none) (hg2 : Gl X "zip") (hm2 : X.mg "zip" = none) (ha : PA X [e, e2] ta)
    (hs : starEach [e, e2] X.env = (false, eval e X.env) :: starEach [e2] X.env := by rfl) (hpl : (backTo pos2 (starEach [e2] X.env)).any (·.1) = false := by rfl) :
    PE X (.Call (.Name "dict" p) [.Call (.Name "zip" p2) [e, e2] [] pos2] [] pos) (tDictZip X.K ta) := by
  refine ⟨fun pins s σ H Q I h => ?_⟩
  refine Call_ (ld_blt I hg hm boot_dictT (PyProof.Rows.callWith_type1 (PyProof.Rows.args_cons ?_ rfl) rfl rfl))
  refine Call_ (ld_blt I hg2 hm2 PyProof.Rows.boot_zip (PyProof.Rows.callWith_type1 (thn (ha.run pos2 pins s σ H _ I h) fun us s1 ⟨vs, H1, I1, r1, q1⟩ => ?_) hs hpl))
  obtain ⟨a, b, ks, ys, ex, hqx, hqy, q⟩ := q1
  subst ex
  cases r1 with
  | cons r rr =>
    cases rr with
    | cons r' rr =>
      cases rr
      cases r
      cases r'
      obtain ⟨its, rv, l1, z1⟩ := I1.list hqx
      obtain ⟨its2, rv2, l2, z2⟩ := I1.list hqy
      refine call_zip_2 l1.isList l2.isList fun h' hz hTI hTO h1 h2 hsz hk => PyProof.Rows.args_nil ?_
      obtain ⟨kv, rel⟩ := kv_zip (P := X.prog) (w := X.w) (s := s1) rv rv2
      have hl : (ks.zip its2).length = min its.length its2.length := by
        have := rv.length
        rw [List.length_map] at this
        rw [List.length_zip, this]
      refine PySem.call_dict_pairs (knd := mixKind X.prog X.w) (kvs := ks.zip its2) (PySem.PairArg.zip (s1.heap.objs.size + 4) (s1.heap.objs.size + 2) (s1.heap.objs.size + 3) s1.heap.objs.size (s1.heap.objs.size + 1) a b (PySem.W.ktu_apart s1.heap.objs.size a b l1.lt l2.lt) its.toArray its2.toArray) (I1.ok.hd hc)
        ⟨hz, hTI, ⟨_, _, hTO⟩, h1, h2, l1.isList.at fun o e => hk _ o e, l2.isList.at fun o e => hk _ o e⟩ ⟨by simpa using hl, fun i key v ⟨e1, e2⟩ => rel i key v (by simpa using e1) (by simpa using e2)⟩ (by have e1 := rv.length; simp only [List.size_toArray]; omega) fun h2' tk hd' hk' => ?_
      have hne : (h'.objs.size == sysModules) = false := beq_eq_false_iff_ne.mpr (Nat.ne_of_gt (Nat.lt_of_lt_of_le I1.big (by rw [hsz]; exact Nat.le_add_right _ _)))
      have hlen : (mergeK [] (ks.zip ys)).length ≤ sizeLine := by
        refine Nat.le_trans (length_mergeK _ []) ?_
        rw [List.length_nil, Nat.zero_add, List.length_zip, rv2.length]
        have e1 : ks.length ≤ sizeLine := by have := rv.length; rw [List.length_map] at this z1; exact z1
        exact Nat.le_trans (Nat.min_le_left _ _) e1
      have hle : s1.heap.objs.size ≤ h'.objs.size := by rw [hsz]; exact Nat.le_add_right _ _
      refine ⟨.ref h'.objs.size, upd H1 h'.objs.size (.dK (mergeK [] (ks.zip ys))), I1.laid (t' := tk) (fun c o e => hk' c o (fun hc => ?_) (hk c o e)) hle (show ObjOk X.prog X.w _ _ _ (.dK (mergeK [] (ks.zip ys))) from ⟨hlen, hne, merged [] (ks.zip its2), KV.merge kv .nil, hd'⟩), rfl, q _ (I1.hok.fresh hle)⟩
      have lt := Heap.lt_size e
      simp only [List.mem_cons, List.not_mem_nil, or_false] at hc
      rcases hc with z | z | z | z <;> (have : c < s1.heap.objs.size := lt; rw [z] at this; first | exact absurd this (Nat.not_lt.mpr (Nat.le_add_right _ _)) | exact absurd this (Nat.lt_irrefl _))
/-! ### over trees -/
def keysOf : List D → Option (List Key)
  | [] => some []
  | d :: l => match keyOf d with
    | some k => (keysOf l).map (k :: ·)
    | none => none
theorem keysOf_rep {g : G} {H : Hp} {A : Addr → Prop} : ∀ {l : List D} {vs : List V} {ks : List Key}, keysOf l = some ks → RepL g H A l vs → vs = ks.map kV
  | [], vs, ks, e, h => by cases e; exact h.toNil
  | d :: l, vs, ks, e, h => by
    rw [keysOf] at e
    cases hk : keyOf d with
    | none => rw [hk] at e; cases e
    | some k =>
      rw [hk] at e
      obtain ⟨ks', h1, rfl⟩ := Option.map_eq_some_iff.mp e
      obtain ⟨v, r, rfl, h2, h3⟩ := h.toCons
      rw [keyOf_rep hk h2, keysOf_rep h1 h3]
      rfl
def dDictZip : List D → Res D
  | [.lst l, .lst m] => match keysOf l with
    | some ks => .ok (.dic ((mergeA [] (ks.zip m)).map (·.1)) ((mergeA [] (ks.zip m)).map (·.2)))
    | none => .stuck
  | _ => .stuck
theorem nx_dictZip (x : List D) (z : Exc) : dDictZip x ≠ .err z := by
  unfold dDictZip
  split
  · split <;> exact fun h => nomatch h
  · exact fun h => nomatch h
theorem zip_repK {g : G} {H : Hp} {A : Addr → Prop} : ∀ {ks : List Key} {l : List D} {vs : List V}, RepL g H A l vs → RepK g H A (ks.zip l) (ks.zip vs)
  | [], l, vs, _ => .nil
  | k :: ks, [], vs, r => by rw [r.toNil]; exact .nil
  | k :: ks, d :: l, vs, r => by
    obtain ⟨v, vs', rfl, h1, h2⟩ := r.toCons
    exact .cons h1 (zip_repK h2)
theorem callD_dictZip {g : G} : CallD g (fun vs H Q => ∃ (a b : Addr) (ks : List Key) (ys : List V), vs = [.ref a, .ref b] ∧ SqL g.K H a (ks.map kV) ∧ SqL g.K H b ys ∧ ∀ p, H p = none → Q (.ref p) (upd H p (.dK (mergeK [] (ks.zip ys))))) dDictZip := fun xs vs H A Q r o => by
  unfold dDictZip at o
  split at o
  · rename_i l m
    obtain ⟨v1, vs1, rfl, h1, h2⟩ := r.toCons
    obtain ⟨v2, vs2, rfl, h3, h4⟩ := h2.toCons
    rw [h4.toNil]
    obtain ⟨a1, ws1, rfl, q1, q2, q3⟩ := h1.toLst
    obtain ⟨a2, ws2, rfl, q4, q5, q6⟩ := h3.toLst
    split at o
    · rename_i ks hks
      have e1 := keysOf_rep hks q3
      subst e1
      refine ⟨a1, a2, ks, ws2, rfl, SqL.of q2, SqL.of q5, fun p hp => ?_⟩
      obtain ⟨us, f1, f2, f3⟩ := (RepK.merge (zip_repK (ks := ks) q6) RepK.nil).out
      have s : Same H (upd H p (.dK (mergeK [] (ks.zip ws2)))) := fun a o e => by rw [upd_ne (ne_of_none e hp)]; exact e
      exact o _ _ s (dic_ (.inr hp) (by rw [upd_same, f1]) f2 (f3.mono (.same s) fun a q _ => .inl q))
    · exact o.elim
  · exact o.elim
section
variable {C : Ctx} {a b : Expr} {fs : MA} {p p2 pos pos2 : Pos}
theorem dDictZipE (hm : C.X.mg "dict" = none) (hm2 : C.X.mg "zip" = none) (ha : DA C [a, b] fs) (hcm : C.X.calm = true := by rfl) (hg : Gl C.X "dict" := by rfl) (hg2 : Gl C.X "zip" := by rfl)
    (hs : starEach [a, b] C.X.env = (false, eval a C.X.env) :: starEach [b] C.X.env := by rfl) (hpl : (backTo pos2 (starEach [b] C.X.env)).any (·.1) = false := by rfl) :
    DE C (.Call (.Name "dict" p) [.Call (.Name "zip" p2) [a, b] [] pos2] [] pos) (eCall dDictZip fs) :=
  pe_imp (pe_dictZip hcm hg hm hg2 hm2 ha hs hpl) (tD_call callD_dictZip nx_dictZip)
end
end DL

set_option Elab.async false
set_option linter.all false
set_option maxRecDepth 100000
/-! DLq: own lists: assigned under borrowing, two at once, pop() as a value; xs[::-1]. -/
namespace DL
open PySem PySem.Spec PyProof.Rows L2
section
variable {C : Ctx} {x a b : Expr} {st : Stmt} {fa fb : ME} {f1 : MS} {pos : Pos}
theorem ds_frz (B : List Nat) (h : DS C st f1) : DS C st (sFrz B f1) := ps_imp h fun D σ H ⟨own, F, e, g, S, o⟩ => ⟨_, F, _, g, S.borrow B, o⟩
theorem SR.unpark {own : Own} {F H : Hp} {σ : L2.St} {e : En} {g : Rng} {i k : Nat} {l : List D} {p : Addr} {vs : List V} (S : SR C own F H σ e g) (hk : own k = some p) (hkl : e.length ≤ k) (hi : i < e.length) (hp : H p = some (.lst vs)) (r : RepL C.g H (C.Al own) l vs) :
    SR C (fun j => if j = i then some p else if j = k then none else own j) F H (σ.set i (some (.ref p))) (e.set i (.ow l)) g := by
  have hik : i ≠ k := fun z => by omega
  have up : ∀ {a : Addr}, C.Al own a → C.Al (fun j => if j = i then some p else if j = k then none else own j) a := fun {a} q => ⟨q.1, fun j hj => by
    by_cases h : j = i
    · simp only [h, if_true] at hj
      exact q.2.1 k (by rw [hk]; exact hj)
    · by_cases h2 : j = k
      · simp only [h2, hik.symm, if_false, if_true] at hj
        cases hj
      · simp only [h, h2, if_false] at hj
        exact q.2.1 j hj, q.2.2⟩
  refine ⟨by simp [S.len], fun j s hs => ?_, fun j q h => ?_, fun j q h hl => ?_, fun j m q h h' => ?_, ?_, S.h0, fun a o h => ?_, S.io, S.tb, S.ih, S.rg⟩
  · by_cases hj : i = j
    · subst hj
      rw [List.getElem?_set_self hi] at hs
      cases hs
      exact ⟨p, vs, by simp, by rw [List.getElem?_set_self (by rw [S.len]; exact hi)], hp, r.mono (.same fun _ _ z => z) fun a q _ => up q⟩
    · rw [List.getElem?_set_ne hj] at hs
      have z := S.sl j s hs
      have hjl : j < e.length := (List.getElem?_eq_some_iff.mp hs).1
      have e2 : (σ.set i (some (V.ref p)))[j]? = σ[j]? := List.getElem?_set_ne hj
      cases s with
      | un => trivial
      | ex y => exact ExR.mono (e2 ▸ z) (.same fun _ _ z => z) (fun _ _ q => q) fun a q _ => up q
      | sh d =>
        obtain ⟨w, e1, e3⟩ := z
        exact ⟨w, by rw [e2]; exact e1, e3.mono (.same fun _ _ z => z) fun a q _ => up q⟩
      | ow l' =>
        obtain ⟨q, ws, e1, e3, e4, e5⟩ := z
        exact ⟨q, ws, by simp only [show j ≠ i from fun h => hj h.symm, show j ≠ k from fun h => by omega, if_false]; exact e1, by rw [e2]; exact e3, e4, e5.mono (.same fun _ _ z => z) fun a q _ => up q⟩
      | rng =>
        obtain ⟨r, c, e1, e3⟩ := z
        exact ⟨r, c, e1, by rw [e2]; exact e3⟩
      | me =>
        obtain ⟨a, e1, e3⟩ := z
        exact ⟨a, e1, by rw [e2]; exact e3⟩
  · by_cases hj : j = i
    · simp only [hj, if_true] at h
      cases h
      exact S.on k p hk
    · by_cases hj2 : j = k
      · simp only [hj2, hik.symm, if_false, if_true] at h
        cases h
      · simp only [hj, hj2, if_false] at h
        exact S.on j q h
  · by_cases hj : j = i
    · subst hj
      exact ⟨l, by rw [List.getElem?_set_self (by simpa using hl)]⟩
    · by_cases hj2 : j = k
      · simp only [hj2, hik.symm, if_false, if_true] at h
        cases h
      · simp only [hj, hj2, if_false] at h
        rw [List.getElem?_set_ne (Ne.symm hj)]
        exact S.ph j q h (by simpa using hl)
  · have key : ∀ j, (if j = i then some p else if j = k then none else own j) = some q → (j = i ∧ q = p) ∨ (j ≠ i ∧ j ≠ k ∧ own j = some q) := fun j h => by
      by_cases h1 : j = i
      · rw [if_pos h1] at h; cases h; exact .inl ⟨h1, rfl⟩
      · rw [if_neg h1] at h
        by_cases h2 : j = k
        · rw [if_pos h2] at h; cases h
        · rw [if_neg h2] at h; exact .inr ⟨h1, h2, h⟩
    rcases key j h with ⟨a1, a2⟩ | ⟨a1, a2, a3⟩ <;> rcases key m h' with ⟨b1, b2⟩ | ⟨b1, b2, b3⟩
    · rw [a1, b1]
    · rw [a2] at b3; exact absurd (S.inj m k p b3 hk) b2
    · rw [b2] at a3; exact absurd (S.inj j k p a3 hk) a2
    · exact S.inj j m q a3 b3
  · obtain ⟨n, hn⟩ := S.fin
    refine ⟨max n (i + 1), fun j hj => ?_⟩
    have h1 : j ≠ i := by omega
    simp only [h1, if_false]
    by_cases h2 : j = k
    · rw [if_pos h2]
    · rw [if_neg h2]; exact hn j (by omega)
  · obtain ⟨h1, h2, h3⟩ := S.fr a o h
    refine ⟨h1, fun j hj => ?_, h3⟩
    by_cases hj1 : j = i
    · simp only [hj1, if_true] at hj
      exact h2 k (by rw [hk]; exact hj)
    · by_cases hj2 : j = k
      · simp only [hj2, hik.symm, if_false, if_true] at hj
        cases hj
      · simp only [hj1, hj2, if_false] at hj
        exact h2 j hj
/-- a, b = new list, new list -/
def sParF (i j : Nat) (f1 f2 : MA) : MS := fun e g => (f1 e g).bind fun p => (f2 e p.2).bind fun q => if i < e.length ∧ j < e.length ∧ i ≠ j then .ok (.nx ((e.set j (.ow q.1)).set i (.ow p.1)) q.2) else .stuck
theorem OutS.bindF2 {own : Own} {F H : Hp} {σ : L2.St} {e : En} {r : Res (List D × Rng)} {k : List D × Rng → Res Out} {D0 : Ends} {Q1 : VK} (h : OutS C F (r.bind k) D0)
    (hq : ∀ l g1 H1 p vs, ExtI C H H1 → H p = none → H1 p = some (.lst vs) → SR C own F H1 σ e g1 → RepL C.g H1 (fun a => C.Al own a ∧ a ≠ p) l vs → OutS C F (k (l, g1)) D0 → Q1 (.ref p) H1) : OutF C own F σ e H r Q1 := OutS.bindF h hq
theorem ds_parF {i j : Nat} {f1 f2 : MA} (h : ∀ {t1 t2 : TE}, PE C.X a t1 → PE C.X b t2 → PS C.X st (tPar i j (tCons t1 (tCons t2 tNil)))) (h1 : DF C a f1) (h2 : DF C b f2) : DS C st (sParF i j f1 f2) :=
  ps_imp (h h1 h2) fun D0 σ H ⟨own, F, e, g, S, o⟩ => ⟨own, F, e, g, S, OutS.bindF o fun l1 g1 H1 p vs x1 n1 hp1 S1 r1 o1 => by
    obtain ⟨n0, hn0⟩ := S1.fin
    let k := max n0 e.length
    have hk0 : own k = none := hn0 k (Nat.le_max_left _ _)
    have hkl : e.length ≤ k := Nat.le_max_right _ _
    have P1 := S.setF x1 S1 n1 hp1 r1 (i := k)
    rw [List.set_eq_of_length_le (by rw [S.len]; exact hkl), List.set_eq_of_length_le hkl] at P1
    have hkp : (fun q => if q = k then some p else own q) k = some p := if_pos rfl
    have up1 : ∀ {a : Addr}, (C.Al own a ∧ a ≠ p) → C.Al (fun q => if q = k then some p else own q) a := fun {a} q => ⟨q.1.1, fun j hj => by
      by_cases hh : j = k
      · simp only [hh, if_true] at hj
        exact q.2 (Option.some.inj hj).symm
      · simp only [hh, if_false] at hj
        exact q.1.2.1 j hj, q.1.2.2⟩
    refine ⟨_, F, e, g1, P1, OutS.bindF o1 fun l2 g2 H2 p2 vs2 x2 n2 hp2 S2 r2 o2 => ?_⟩
    by_cases hij : i < e.length ∧ j < e.length ∧ i ≠ j
    · simp only [hij, not_false_iff, and_self, if_true, ne_eq] at o2
      have hp12 : H2 p = some (.lst vs) := x2 _ _ hp1 (P1.on k p hkp).2.2
      have K1 := P1.keep x2
      have r11 : RepL C.g H1 (fun a => C.Al (fun q => if q = k then some p else own q) a ∧ ∃ o, H1 a = some o) l1 vs := r1.mono (.same fun _ _ z => z) fun a q z => ⟨up1 q, z⟩
      have T := P1.setF x2 S2 n2 hp2 r2 (i := j)
      have hkj : k ≠ j := fun z => by omega
      have hkp3 : (fun q => if q = j then some p2 else if q = k then some p else own q) k = some p := by
        show (if k = j then some p2 else if k = k then some p else own k) = some p
        rw [if_neg hkj, if_pos rfl]
      have r13 : RepL C.g H2 (C.Al fun q => if q = j then some p2 else if q = k then some p else own q) l1 vs := r11.mono ⟨K1.tup, fun a o q h => K1.all a o q.1 h⟩ fun a q _ => by
        refine ⟨q.1.1, fun m hm => ?_, q.1.2.2⟩
        by_cases hmj : m = j
        · simp only [hmj, if_true] at hm
          obtain ⟨o, ho⟩ := q.2
          rw [← Option.some.inj hm, n2] at ho
          cases ho
        · simp only [hmj, if_false] at hm
          exact q.1.2.1 m hm
      have U := T.unpark (i := i) hkp3 (by rw [List.length_set]; exact hkl) (by rw [List.length_set]; exact hij.1) hp12 r13
      refine ⟨.ref p, .ref p2, rfl, ?_⟩
      have o3 := o2 _ _ _ U
      rw [List.set_comm _ _ (Ne.symm hij.2.2)] at o3
      exact o3
    · simp only [hij, if_false] at o2; exact o2.elim⟩
/-- x = y.pop() -/
def sPopV (i j : Nat) : MS := fun e g => match e[j]? with
  | some (.ow l) => match l.getLast? with
    | some d => .ok (.nx ((e.set j (.ow l.dropLast)).set i (.sh d)) g)
    | none => .stuck
  | _ => .stuck
theorem ds_popV {i j : Nat} (h : PS C.X st (tAsg (tBM0 C.X.K "list" rPop (tVar j)) (gName i))) : DS C st (sPopV i j) :=
  ps_imp h fun D σ H ⟨own, F, e, g, S, o⟩ => by
    unfold sPopV at o
    cases hs : e[j]? with
    | none => rw [hs] at o; exact o.elim
    | some s =>
      rw [hs] at o
      cases s <;> first | exact o.elim | skip
      rename_i l
      obtain ⟨p, vs, h1, h2, h3, h4⟩ := S.sl j _ hs
      cases hd : l.getLast? with
      | none => simp only [hd] at o; exact o.elim
      | some d =>
        simp only [hd] at o
        have hl : l[vs.length - 1]? = some d := by rw [← h4.length, ← List.getLast?_eq_getElem?]; exact hd
        obtain ⟨v, hv, rv⟩ := h4.get hl
        have hd4 : RepL C.g H (C.Al own) l.dropLast vs.dropLast := by
          rw [List.dropLast_eq_take, List.dropLast_eq_take, h4.length]
          exact h4.take _
        have S1 := S.upd h1 (fun _ => h2) hd4
        have rv1 : Rep C.g (L2.upd H p (.lst vs.dropLast)) (C.Al own) d v := by
          have := S.updRep (vs := vs.dropLast) h1 (RepL.cons rv .nil)
          obtain ⟨v', _, e1, e2, _⟩ := this.toCons
          cases e1
          exact e2
        exact ⟨.ref p, h2, .inl ⟨rfl, vs, SqL.of h3⟩, p, vs, v, rfl, rfl, h3, hv, o _ _ _ (S1.set rv1)⟩
/-- xs[::-1] -/
def dRev : D → Res D
  | .lst l => .ok (.lst l.reverse)
  | _ => .stuck
theorem nx_rev (x : D) (z : Exc) : dRev x ≠ .err z := by cases x <;> exact fun h => nomatch h
theorem RepL.reverse {g : G} {H : Hp} {A : Addr → Prop} : ∀ {l : List D} {vs : List V}, RepL g H A l vs → RepL g H A l.reverse vs.reverse
  | [], vs, h => by rw [h.toNil]; exact .nil
  | d :: l, vs, h => by
    obtain ⟨v, r, rfl, h1, h2⟩ := h.toCons
    rw [List.reverse_cons, List.reverse_cons]
    exact (RepL.reverse h2).append (.cons h1 .nil)
theorem dRevE {k : Nat} {p1 p2 p3 : Pos} (ha : DE C a fa) : DE C (.Subscript a (.Slice none none (some (.UnaryOp .USub (.Constant (.int 1) k p1) p2)) p3) pos) (eUn dRev fa) :=
  pe_imp (pe_revL ha) fun σ H Q ⟨own, F, e, g, S, o⟩ => ⟨own, F, e, g, S, OutE.bindE o fun d g1 H1 v x1 S1 r1 o1 => by
    cases d <;> first | exact o1.elim | skip
    obtain ⟨p, vs, rfl, h1, h2, h3⟩ := r1.toLst
    have o2 := o1.toV S1 (nx_rev _)
    exact ⟨p, vs, rfl, SqL.of h2, fun q hq => o2.newL hq h3.reverse⟩⟩
end
end DL

set_option Elab.async false
set_option linter.all false
set_option maxRecDepth 100000
/-! DLf: defs whose result is a new list. -/
namespace DL
open PySem PySem.Spec PyProof.Rows L2
/-- new since the def began, reached by its own name alone -/
def NewL (C : Ctx) (H : Hp) (d : D) (v : V) : Prop := ∃ l p vs, d = .lst l ∧ v = .ref p ∧ C.H0 p = none ∧ H p = some (.lst vs) ∧ RepL C.g H (fun a => C.AR a ∧ a ≠ p) l vs
def OutSF (C : Ctx) (F : Hp) (r : Res Out) (D : Ends) : Prop := match r with
  | .ok (.nx e' g') => ∀ own' σ' H', SR C own' F H' σ' e' g' → D.nx σ' H'
  | .ok (.bk e' g') => ∀ own' σ' H', SR C own' F H' σ' e' g' → D.bk σ' H'
  | .ok (.ct e' g') => ∀ own' σ' H', SR C own' F H' σ' e' g' → D.ct σ' H'
  | .ok (.rt d g') => ∀ own' σ' e' H' v, SR C own' F H' σ' e' g' → NewL C H' d v → D.rt v H'
  | .err x => ∀ own' σ' e' g' H' c dd, SR C own' F H' σ' e' g' → RepX C.g H' (C.Al own') x c dd → C.W c dd σ' H'
  | .stuck => False
def tDSF (C : Ctx) (f : MS) : TS := fun D σ H => ∃ own F e g, SR C own F H σ e g ∧ OutSF C F (f e g) D
def DSF (C : Ctx) (x : Stmt) (f : MS) : Prop := PS C.X x (tDSF C f)
def DSFs (C : Ctx) (x : List Stmt) (f : MS) : Prop := PSs C.X x (tDSF C f)
/-- no return -/
def sNoRt (f : MS) : MS := fun e g => match f e g with
  | .ok (.rt _ _) => .stuck
  | r => r
section
variable {C : Ctx} {x a b : Expr} {st : Stmt} {rest sts : List Stmt} {fa fb : ME} {f1 f2 : MS} {fl : MA} {pos : Pos}
theorem dsf_of (h : DS C st f1) : DSF C st (sNoRt f1) := ps_imp h fun D σ H ⟨own, F, e, g, S, o⟩ => ⟨own, F, e, g, S, by
  unfold sNoRt at o
  cases hf : f1 e g with
  | ok u =>
    rw [hf] at o
    cases u with
    | nx e' g' => exact o
    | rt d g' => exact o.elim
    | bk e' g' => exact o
    | ct e' g' => exact o
  | err y => rw [hf] at o; exact o
  | stuck => rw [hf] at o; exact o.elim⟩
theorem dsfs_nil : DSFs C [] sNx := pss_imp pss_nil fun D σ H ⟨own, F, e, g, S, o⟩ => o _ _ _ S
theorem dsfs_cons (h1 : DSF C st f1) (h2 : DSFs C rest f2) : DSFs C (st :: rest) (sSeq f1 f2) := pss_imp (pss_cons h1 h2) fun D σ H ⟨own, F, e, g, S, o⟩ => ⟨own, F, e, g, S, by
  unfold sSeq at o
  cases hf : f1 e g with
  | ok u =>
    rw [hf] at o
    cases u with
    | nx e' g' => exact fun own' σ' H' S' => ⟨own', F, e', g', S', o⟩
    | rt d g' => exact o
    | bk e' g' => exact o
    | ct e' g' => exact o
  | err y => rw [hf] at o; exact o
  | stuck => rw [hf] at o; exact o.elim⟩
theorem dsfs_one (h1 : DSF C st f1) : DSFs C [st] f1 := pss_one h1
theorem OutT.bindSF {own : Own} {F H : Hp} {σ : L2.St} {e : En} {r : Res (Bool × Rng)} {k : Bool × Rng → Res Out} {D' : Ends} {Q1 : Bool → Hp → Prop} (h : OutSF C F (r.bind k) D')
    (hq : ∀ d g1 H1, ExtI C H H1 → SR C own F H1 σ e g1 → OutSF C F (k (d, g1)) D' → Q1 d H1) : OutT C own F σ e H r Q1 := by
  cases r with
  | ok a => exact fun H1 x1 S1 => hq a.1 a.2 H1 x1 S1 h
  | err y => exact fun H' c dd x ⟨g', S'⟩ r => h own σ e g' H' c dd S' r
  | stuck => exact h
theorem dsf_if {c : Expr} {tc : MT} {sa sb : List Stmt} (hc : DT C c tc) (ha : DSFs C sa f1) (hb : DSFs C sb f2) : DSF C (.If c sa sb pos) (sIf tc f1 f2) := ps_imp (ps_if hc ha hb) fun D σ H ⟨own, F, e, g, S, o⟩ => ⟨own, F, e, g, S, OutT.bindSF o fun d g1 H1 x1 S1 o1 => by
  cases d with
  | true => exact ⟨own, F, e, g1, S1, o1⟩
  | false => exact ⟨own, F, e, g1, S1, o1⟩⟩
def sRetF (f : MA) : MS := fun e g => (f e g).bind fun p => .ok (.rt (.lst p.1) p.2)
theorem OutF.bindSF {own : Own} {F H : Hp} {σ : L2.St} {e : En} {r : Res (List D × Rng)} {k : List D × Rng → Res Out} {D' : Ends} {Q1 : VK} (h : OutSF C F (r.bind k) D')
    (hq : ∀ l g1 H' p vs, ExtI C H H' → H p = none → H' p = some (.lst vs) → SR C own F H' σ e g1 → RepL C.g H' (fun a => C.Al own a ∧ a ≠ p) l vs → OutSF C F (k (l, g1)) D' → Q1 (.ref p) H') : OutF C own F σ e H r Q1 := by
  cases r with
  | ok a => exact fun H' p vs x n hp S' r' => hq a.1 a.2 H' p vs x n hp S' r' h
  | err y => exact fun H' c dd x ⟨g', S'⟩ r => h own σ e g' H' c dd S' r
  | stuck => exact h
theorem dsf_ret (ha : DF C x fl) : DSF C (.Return (some x) pos) (sRetF fl) := ps_imp (ps_ret ha) fun D σ H ⟨own, F, e, g, S, o⟩ => ⟨own, F, e, g, S, OutF.bindSF o fun l g1 H1 p vs x1 n hp S1 r1 o1 => by
  have h0 : C.H0 p = none := by
    cases hz : C.H0 p with
    | none => rfl
    | some ob =>
      by_cases hi : C.io p
      · obtain ⟨ob2, q, _⟩ := S.io p hi
        rw [n] at q; cases q
      · have := S.h0 p ob hz hi
        rw [n] at this; cases this
  exact o1 _ _ _ _ _ S1 ⟨l, p, vs, rfl, rfl, h0, hp, r1.mono (.same fun _ _ z => z) fun a q _ => ⟨⟨q.1.1, q.1.2.2⟩, q.2⟩⟩⟩
def sRetO (i : Nat) : MS := fun e g => match e[i]? with
  | some (.ow l) => .ok (.rt (.lst l) g)
  | _ => .stuck
theorem dsf_retO {i : Nat} (hv : PE C.X x (tVar i)) : DSF C (.Return (some x) pos) (sRetO i) := ps_imp (ps_ret hv) fun D σ H ⟨own, F, e, g, S, o⟩ => by
  unfold sRetO at o
  cases hs : e[i]? with
  | none => rw [hs] at o; exact o.elim
  | some s =>
    rw [hs] at o
    cases s <;> first | exact o.elim | skip
    rename_i l
    obtain ⟨p, vs, h1, h2, h3, h4⟩ := S.sl i _ hs
    obtain ⟨_, h5, _⟩ := S.on i p h1
    exact ⟨.ref p, h2, o _ _ _ _ _ S ⟨l, p, vs, rfl, rfl, h5, h3, h4.mono (.same fun _ _ z => z) fun a q _ => ⟨⟨q.1, q.2.2⟩, fun z => q.2.1 i (by rw [h1, z])⟩⟩⟩
end
/-! ### the promise -/
def OutDF (g : G) (H : Hp) (A : Addr → Prop) (E : XK) (r : Res D) (Q : VK) : Prop := match r with
  | .ok (.lst l) => ∀ H' p vs, SameT g.tb H H' → Tabs g.tb H' → H p = none → H' p = some (.lst vs) → RepL g H' (fun a => (A a ∨ H a = none) ∧ a ≠ p) l vs → Q (.ref p) H'
  | .ok _ => False
  | .err x => ∀ H' c dd, SameT g.tb H H' → Tabs g.tb H' → RepX g H' (fun a => A a ∨ H a = none) x c dd → E c dd H'
  | .stuck => False
def spF (g : G) (m : List D → Res D) : Sp := fun vs H Q E => ∃ (A : Addr → Prop) (ds : List D), RepL g H A ds vs ∧ Tabs g.tb H ∧ (∀ a, A a → ∀ p ∈ g.tb, p.1 ≠ a) ∧ OutDF g H A E (m ds) Q
def onlyL (r : Res D) : Res D := match r with
  | .ok (.lst l) => .ok (.lst l)
  | .err x => .err x
  | _ => .stuck
def runF (n k : Nat) (b : MS) (ds : List D) : Res D := onlyL (runD n k b ds)
theorem runF_l {n k : Nat} {b : MS} {ds : List D} {d : D} (h : runF n k b ds = .ok d) : ∃ l, d = .lst l := by
  unfold runF at h
  cases hr : runD n k b ds with
  | ok d' => rw [hr] at h; cases d' <;> first | (cases h; done) | (cases h; exact ⟨_, rfl⟩)
  | err x => rw [hr] at h; cases h
  | stuck => rw [hr] at h; cases h
theorem spF_of {g : G} {m : List D → Res D} (hm : ∀ ds d, m ds = .ok d → ∃ l, d = .lst l) {vs : List V} {H : Hp} {Q : VK} {E : XK} (h : spD g m vs H Q E) : spF g m vs H Q E := by
  obtain ⟨A, ds, r, t, hA, o⟩ := h
  refine ⟨A, ds, r, t, hA, ?_⟩
  cases hr : m ds with
  | ok d =>
    obtain ⟨l, rfl⟩ := hm ds d hr
    rw [hr] at o
    exact fun H' p vs s t n hp r => o H' _ s t (.lst_ (.inr n) hp (r.mono (.same fun _ _ z => z) fun a q _ => q.1))
  | err x => rw [hr] at o; exact o
  | stuck => rw [hr] at o; exact o
section
variable {P : Program} {w : World} {K : PySem.W.Frag} {mg : Str → Option Value} {base : Heap} {cm : Str → Option Addr} {tb : List (Addr × Str)}
theorem CalD.ofF {k : Nat} {x : Str} {st : Stmt} {dvs : List V} {kws : List (Str × V)} {f : Addr} {ps : List Str} {g : G} {m : List D → Res D} (h : CalD P w K mg base k x st dvs kws f ps (spF g m)) (hm : ∀ ds d, m ds = .ok d → ∃ l, d = .lst l) : CalD P w K mg base k x st dvs kws f ps (spD g m) := by
  obtain ⟨fd, F1, F2⟩ := h
  exact ⟨fd, F1.imp fun vs H Q E => spF_of hm, F2⟩
theorem fn_spF {x qual : Str} {st : Stmt} {dvs : List V} {kws : List (Str × V)} {f : Addr} {fd : FuncData} {N ps : List Str} {k : Nat} (F : FunD K x qual (defArgs st) (defBody st) (defScope st) dvs kws f fd) (S : FnScope N ps (defScope st)) (b : MS)
    (body : ∀ (cdv : Value) (A : Around) (outer : List PySem.Env) (s : Shared) (H : Hp) (E : XK) (A0 : Addr → Prop), Room k (A.deeper (envOfC qual (defScope st) s.heap.objs.size f cdv)) → DSFs (ctxD P w K mg base cm tb N qual (defScope st) f cdv A outer s H E A0 none) (defBody st) b) :
    FnOk P w K mg base (L2N.CX P w) (k + 1) f fd ps (spF ⟨K, cm, tb⟩ (runF N.length ps.length b)) := by
  have len : ∀ vs H Q E, spF ⟨K, cm, tb⟩ (runF N.length ps.length b) vs H Q E → vs.length = ps.length := fun vs H Q E ⟨A0, ds, r, _, _, o⟩ => by
    unfold runF runD at o
    split at o
    · rename_i h; rw [← r.length]; exact h
    · exact o.elim
  refine F.ok S len fun cdv A outer s H vs Q E hr h => ?_
  have hlen := len vs H Q E h
  obtain ⟨A0, ds, r, tt, hA, o⟩ := id h
  refine ⟨_, body cdv A outer s H E A0 hr, ?_⟩
  have hd : ds.length = ps.length := by rw [r.length, hlen]
  unfold runF runD at o
  rw [if_pos hd] at o
  let C : Ctx := ctxD P w K mg base cm tb N qual (defScope st) f cdv A outer s H E A0 none
  have S0 : SR C (fun _ => none) (fun _ => none) H (L2.start N vs) (env0 N.length ds) g0 := sr_start (C := C) (by rw [hlen]; exact pre_le S) r tt hA rfl
  have nio : ∀ a, C.io a → ∃ p ∈ tb, p.1 = a := fun a h => h.elim (fun ⟨c, z⟩ => by cases z) id
  have kp : ∀ {own' : Own} {F' H' : Hp} {σ' : L2.St} {e' : En} {g' : Rng}, SR C own' F' H' σ' e' g' → SameT tb H H' := fun S' a ob z n => S'.h0 a ob z fun hi => by
    obtain ⟨p, hp, e⟩ := nio a hi
    exact n p hp e
  refine ⟨fun _ => none, fun _ => none, env0 N.length ds, g0, S0, ?_⟩
  show OutSF C _ (b (env0 N.length ds) g0) _
  cases hb : b (env0 N.length ds) g0 with
  | ok u =>
    rw [hb] at o
    cases u with
    | nx e g => exact o.elim
    | rt d g =>
      cases d <;> first | exact o.elim | skip
      intro own' σ' e' H' v S' ⟨l, p, vs', e1, e2, h0, hp, r'⟩
      cases e1
      rw [e2]
      exact o H' p vs' (kp S') S'.tb h0 hp (r'.mono (.same fun _ _ z => z) fun a q _ => ⟨q.1.1, q.2⟩)
    | bk e g => exact o.elim
    | ct e g => exact o.elim
  | err y =>
    rw [hb] at o
    exact fun own' σ' e' g' H' c dd S' ⟨Ca, d, ws, h1, h2, h3, h4, h5, h6⟩ => o H' c dd (kp S') S'.tb ⟨Ca, d, ws, h1, h2, h3, h4, h5, h6.mono (.same fun _ _ z => z) fun a q _ => q.1⟩
  | stuck => rw [hb] at o; exact o.elim
end
theorem fn_stuckF {P : Program} {w : World} {K : PySem.W.Frag} {mg : Str → Option Value} {base : Heap} {cx : CXT} {k : Nat} {f : Addr} {fd : FuncData} {ps : List Str} {g : G} {m : List D → Res D} (h : ∀ ds, m ds = .stuck) : FnOk P w K mg base cx k f fd ps (spF g m) :=
  ⟨fun vs H Q E ⟨A, ds, r, _, _, o⟩ => by rw [h] at o; exact o.elim, fun A outer s H args us vs Q E _ _ _ _ ⟨A0, ds, r, _, _, o⟩ => by rw [h] at o; exact o.elim⟩
/-! ### the call -/
def aCallF (m : List D → Res D) (fs : MA) : MA := fun e g => (fs e g).bind fun p => match m p.1 with
  | .ok (.lst l) => .ok (l, p.2)
  | .err x => .err x
  | _ => .stuck
section
variable {C : Ctx} {a : Expr} {es : List Expr} {fs : MA} {n : Str} {k : Nat} {f : Addr} {fd : FuncData} {ps : List Str} {p pos : Pos}
theorem df_callF {m : List D → Res D} (FF : FnOk C.X.prog C.X.w C.X.K C.X.mg C.X.base (L2N.CX C.X.prog C.X.w) k f fd ps (spF C.g m)) (hr : Room k C.X.A) (tk : L2N.Takes C.X C.W) (hm : C.X.mg n = some (.ref f)) (hk : PySem.W.keepIn C.X.K (.ref f) = true) (hb : L2.Binds C.X.K fd ps [])
    (ha : DA C (a :: es) fs) (hg : Gl C.X n := by rfl) (hdb : (n == ("__debug__" : Str)) = false := by decide) (he : starEach (a :: es) C.X.env = (false, eval a C.X.env) :: starEach es C.X.env := by rfl) (hpl : (backTo pos (starEach es C.X.env)).any (·.1) = false := by rfl) :
    DF C (.Call (.Name n p) (a :: es) [] pos) (aCallF m fs) :=
  pe_imp (pe_callSD (E := WE C.W) (dvs := []) FF hr hg hm hk hb .nil (fun σ => L2N.passAt tk σ) ha hdb he hpl) fun σ H Q ⟨own, F, e, g, S, o⟩ => ⟨own, F, e, g, S, OutF.bindA o fun l g1 H1 vs x1 S1 r1 o1 => by
    refine ⟨C.Al own, l, by rw [List.append_nil]; exact r1, S1.tb, Al_tb, ?_⟩
    have up : ∀ {a : Addr}, (C.Al own a ∨ H1 a = none) → C.Al own a := fun q => q.elim id S1.fresh
    show OutDF _ _ _ _ (m l) _
    have o2 : OutF C own F σ e H1 (match m l with | .ok (.lst l) => .ok (l, g1) | .err x => .err x | _ => .stuck) Q := o1
    cases hml : m l with
    | ok d =>
      rw [hml] at o2
      cases d <;> first | exact o2.elim | skip
      exact fun H' p vs s t n hp r => o2 H' p vs (S1.call s t).1 n hp (S1.call s t).2 (r.mono (.same fun _ _ z => z) fun a q _ => ⟨up q.1, q.2⟩)
    | err y =>
      rw [hml] at o2
      exact fun H' c dd s t ⟨Ca, d, ws, h1, h2, h3, h4, h5, h6⟩ => o2 H' c dd (S1.call s t).1 ⟨g1, (S1.call s t).2⟩ ⟨Ca, d, ws, h1, h2, h3, h4, h5, h6.mono (.same fun _ _ z => z) fun a q _ => up q⟩
    | stuck => rw [hml] at o2; exact o2.elim⟩
theorem dCallFF {m : List D → Res D} (FF : Cal C.X.prog C.X.w C.X.K C.X.mg C.X.base k f ps (spF C.g m)) (hr : Room k C.X.A) (tk : L2N.Takes C.X C.W) (hm : C.X.mg n = some (.ref f)) (hk : PySem.W.keepIn C.X.K (.ref f) = true)
    (ha : DA C (a :: es) fs) (hg : Gl C.X n := by rfl) (hdb : (n == ("__debug__" : Str)) = false := by decide) (he : starEach (a :: es) C.X.env = (false, eval a C.X.env) :: starEach es C.X.env := by rfl) (hpl : (backTo pos (starEach es C.X.env)).any (·.1) = false := by rfl) :
    DF C (.Call (.Name n p) (a :: es) [] pos) (aCallF m fs) := by
  obtain ⟨fd, FF, hb⟩ := FF
  exact df_callF FF hr tk hm hk hb ha hg hdb he hpl
/-- three names at once -/
def sPar3 (i j l : Nat) (f : MA) : MS := fun e g => (f e g).bind fun p => match p.1 with
  | [d1, d2, d3] => .ok (.nx (((e.set i (.sh d1)).set j (.sh d2)).set l (.sh d3)) p.2)
  | _ => .stuck
theorem ds_par3 {st : Stmt} {i j l : Nat} {es : List Expr} {f : MA} (h : ∀ {t : TA}, PA C.X es t → PS C.X st (tPar3 i j l t)) (ha : DA C es f) : DS C st (sPar3 i j l f) := ps_imp (h ha) fun D σ H ⟨own, F, e, g, S, o⟩ => ⟨own, F, e, g, S, OutS.bindA o fun ds g1 H1 vs x1 S1 r1 o1 => by
  cases ds with
  | nil => exact o1.elim
  | cons d1 ds =>
  cases ds with
  | nil => exact o1.elim
  | cons d2 ds =>
  cases ds with
  | nil => exact o1.elim
  | cons d3 ds =>
  cases ds with
  | cons d4 ds => exact o1.elim
  | nil =>
  obtain ⟨v1, vs1, rfl, rv1, r2⟩ := r1.toCons
  obtain ⟨v2, v3, rfl, rv2, rv3⟩ := two_of r2
  exact ⟨v1, v2, v3, rfl, o1 _ _ _ (((S1.set rv1).set (rv2.mono (.same fun _ _ z => z) fun a q _ => Al_off q)).set ((rv3.mono (.same fun _ _ z => z) fun a q _ => Al_off q).mono (.same fun _ _ z => z) fun a q _ => Al_off q))⟩⟩
/-- x.reverse(), x.clear() -/
def sRev (i : Nat) : MS := fun e g => match e[i]? with
  | some (.ow l) => .ok (.nx (e.set i (.ow l.reverse)) g)
  | _ => .stuck
theorem ds_rev {st : Stmt} {i : Nat} (h : PS C.X st (tDrop (tBM0 C.X.K "list" rReverse (tVar i)))) : DS C st (sRev i) :=
  ps_imp h fun D σ H ⟨own, F, e, g, S, o⟩ => by
    unfold sRev at o
    cases hs : e[i]? with
    | none => rw [hs] at o; exact o.elim
    | some s =>
      rw [hs] at o
      cases s <;> first | exact o.elim | skip
      rename_i l
      obtain ⟨p, vs, h1, h2, h3, h4⟩ := S.sl i _ hs
      exact ⟨.ref p, h2, .inl ⟨rfl, vs, SqL.of h3⟩, p, vs, rfl, rfl, h3, o _ _ _ (S.upd h1 (fun _ => h2) h4.reverse)⟩
end
end DL

set_option Elab.async false
set_option linter.all false
set_option maxRecDepth 100000
/-! DLv: defs that draw and whose result is a new list; x[::-1] as a new list. -/
namespace DL
open PySem PySem.Spec PyProof.Rows L2
def OutDGF (g : G) (H : Hp) (A : Addr → Prop) (r c : Addr) (z : Res (D × Rng)) (Q : VK) : Prop := match z with
  | .ok (.lst l, g') => ∀ H' p vs, (∀ a o, H a = some o → a ≠ r → (∀ p ∈ g.tb, p.1 ≠ a) → H' a = some o) → Tabs g.tb H' → RngAt H' r c g' → H p = none → H' p = some (.lst vs) → RepL g H' (fun a => (A a ∨ H a = none) ∧ a ≠ p) l vs → Q (.ref p) H'
  | _ => False
def spGF (g : G) (m : List D → Rng → Res (D × Rng)) : Sp := fun vs H Q E => ∃ (A : Addr → Prop) (ds : List D) (r c : Addr) (gg : Rng) (ws : List V), vs = .ref r :: ws ∧ RngAt H r c gg ∧ RepL g H A ds ws ∧ ¬ A r ∧ Tabs g.tb H ∧ (∀ a, A a → ∀ p ∈ g.tb, p.1 ≠ a) ∧ OutDGF g H A r c (m ds gg) Q
def onlyLG (r : Res (D × Rng)) : Res (D × Rng) := match r with
  | .ok (.lst l, g) => .ok (.lst l, g)
  | _ => .stuck
def runGF (n k : Nat) (b : MS) (ds : List D) (g : Rng) : Res (D × Rng) := onlyLG (runG n k b ds g)
theorem onlyLG_l {r : Res (D × Rng)} {d : D} {g : Rng} (h : onlyLG r = .ok (d, g)) : ∃ l, d = .lst l := by
  unfold onlyLG at h
  split at h
  · cases h; exact ⟨_, rfl⟩
  · cases h
theorem runGF_l {n k : Nat} {b : MS} {ds : List D} {g g' : Rng} {d : D} (h : runGF n k b ds g = .ok (d, g')) : ∃ l, d = .lst l := onlyLG_l h
theorem spGF_of {g : G} {m : List D → Rng → Res (D × Rng)} (hm : ∀ ds g d g', m ds g = .ok (d, g') → ∃ l, d = .lst l) {vs : List V} {H : Hp} {Q : VK} {E : XK} (h : spG g m vs H Q E) : spGF g m vs H Q E := by
  obtain ⟨A, ds, r, c, gg, ws, e, R, rp, nA, t, hA, o⟩ := h
  refine ⟨A, ds, r, c, gg, ws, e, R, rp, nA, t, hA, ?_⟩
  cases hr : m ds gg with
  | ok p =>
    obtain ⟨d, g'⟩ := p
    obtain ⟨l, rfl⟩ := hm ds gg d g' hr
    rw [hr] at o
    exact fun H' p vs s t R' n hp r => o H' _ s t R' (.lst_ (.inr n) hp (r.mono (.same fun _ _ z => z) fun a q _ => q.1))
  | err x => rw [hr] at o; exact o
  | stuck => rw [hr] at o; exact o
section
variable {P : Program} {w : World} {K : PySem.W.Frag} {mg : Str → Option Value} {base : Heap} {cm : Str → Option Addr} {tb : List (Addr × Str)}
theorem CalD.ofGF {k : Nat} {x : Str} {st : Stmt} {dvs : List V} {kws : List (Str × V)} {f : Addr} {ps : List Str} {g : G} {m : List D → Rng → Res (D × Rng)} (h : CalD P w K mg base k x st dvs kws f ps (spGF g m)) (hm : ∀ ds g d g', m ds g = .ok (d, g') → ∃ l, d = .lst l) : CalD P w K mg base k x st dvs kws f ps (spG g m) := by
  obtain ⟨fd, F1, F2⟩ := h
  exact ⟨fd, F1.imp fun vs H Q E => spGF_of hm, F2⟩
theorem fn_spGF {x qual : Str} {st : Stmt} {dvs : List V} {kws : List (Str × V)} {f : Addr} {fd : FuncData} {N ps : List Str} {k : Nat} (F : FunD K x qual (defArgs st) (defBody st) (defScope st) dvs kws f fd) (S : FnScope N ps (defScope st)) (b : MS)
    (body : ∀ (cdv : Value) (A : Around) (outer : List PySem.Env) (s : Shared) (H : Hp) (E : XK) (A0 : Addr → Prop) (r c : Addr), Room k (A.deeper (envOfC qual (defScope st) s.heap.objs.size f cdv)) → DSFs (ctxD P w K mg base cm tb N qual (defScope st) f cdv A outer s H E A0 (some (r, c))) (defBody st) b) :
    FnOk P w K mg base (L2N.CX P w) (k + 1) f fd ps (spGF ⟨K, cm, tb⟩ (runGF N.length ps.length b)) := by
  have len : ∀ vs H Q E, spGF ⟨K, cm, tb⟩ (runGF N.length ps.length b) vs H Q E → vs.length = ps.length := fun vs H Q E ⟨A0, ds, r, c, gg, ws, e, R, rp, hA, _, _, o⟩ => by
    unfold runGF runG at o
    by_cases h : ds.length + 1 = ps.length
    · subst e; rw [List.length_cons, ← rp.length]; exact h
    · rw [if_neg h] at o; exact o.elim
  refine F.ok S len fun cdv A outer s H vs Q E hr h => ?_
  have hlen := len vs H Q E h
  obtain ⟨A0, ds, r, c, gg, ws, rfl, R, rp, hA, tt, hT, o⟩ := id h
  refine ⟨_, body cdv A outer s H E A0 r c hr, ?_⟩
  have hd : ds.length + 1 = ps.length := by rw [← hlen, List.length_cons, rp.length]
  unfold runGF runG at o
  rw [if_pos hd] at o
  let C : Ctx := ctxD P w K mg base cm tb N qual (defScope st) f cdv A outer s H E A0 (some (r, c))
  have io : ∀ a, C.io a → a = r ∨ ∃ p ∈ tb, p.1 = a := fun a h => h.elim (fun ⟨c', z⟩ => by cases z; exact .inl rfl) .inr
  have ntL : ∀ {a : Addr} {xs : List V}, H a = some (.lst xs) → ∀ p ∈ tb, p.1 ≠ a := fun {a xs} h p hp z => by
    obtain ⟨ps, h1, _⟩ := tt p hp
    rw [z, h] at h1; cases h1
  have at0 : ∀ a, C.io a → ∃ o, H a = some o ∧ MutO o := fun a h => by
    rcases io a h with rfl | ⟨p, hp, rfl⟩
    · exact ⟨_, R.at_, .inl ⟨_, rfl⟩⟩
    · exact tt.at_ hp
  have rp' : RepL C.g C.H0 (C.Al fun _ => none) ds ws := rp.mono (.same fun _ _ z => z) fun a q _ => ⟨.inl q, fun j h => (by cases h), fun hi => by
    rcases io a hi with z | ⟨p, hp, z⟩
    · exact hA (z ▸ q)
    · exact hT a q p hp z⟩
  have hn : ps.length ≤ N.length := pre_le S
  have S0 : SR C (fun _ => none) (fun _ => none) H (L2.start N (.ref r :: ws)) (envG N.length ds) gg := by
    refine ⟨?_, fun i s hs => ?_, fun i p h => ?_, fun i p h => ?_, fun i j p h => ?_, ⟨0, fun _ _ => rfl⟩, fun a o h _ => h, fun a o h => ?_, at0, tt, fun a h => ?_, fun r' c' z => ?_⟩
    · unfold L2.start envG; simp [rp.length]
    · unfold envG at hs
      cases i with
      | zero => cases hs; exact ⟨r, c, rfl, start_get rfl⟩
      | succ i =>
        rw [List.getElem?_cons_succ] at hs
        by_cases hi : i < ds.length
        · rw [List.getElem?_append_left (by simpa using hi), List.getElem?_map, List.getElem?_eq_getElem hi] at hs
          cases hs
          obtain ⟨v, h1, h2⟩ := rp'.get (List.getElem?_eq_getElem hi)
          exact ⟨v, start_get (by rw [List.getElem?_cons_succ]; exact h1), h2⟩
        · rw [List.getElem?_append_right (by simp; omega), List.getElem?_replicate] at hs
          split at hs
          · cases hs; trivial
          · cases hs
    · cases h
    · cases h
    · cases h
    · cases h
    · obtain ⟨o, e, _⟩ := at0 a h
      show H a ≠ none
      rw [e]; exact fun z => nomatch z
    · cases z
      exact ⟨.inl ⟨c, rfl⟩, fun hi => (io c hi).elim R.ne fun ⟨p, hp, z⟩ => ntL R.ce p hp z, (by show H c ≠ none; rw [R.ce]; exact fun z => nomatch z), R⟩
  refine ⟨fun _ => none, fun _ => none, envG N.length ds, gg, S0, ?_⟩
  show OutSF C _ (b (envG N.length ds) gg) _
  have kp : ∀ {own' : Own} {F' H' : Hp} {σ' : L2.St} {e' : En} {g' : Rng}, SR C own' F' H' σ' e' g' → ∀ a o, H a = some o → a ≠ r → (∀ p ∈ tb, p.1 ≠ a) → H' a = some o := fun S' a ob z n n2 => S'.h0 a ob z fun hi => (io a hi).elim n fun ⟨p, hp, z⟩ => n2 p hp z
  cases hb : b (envG N.length ds) gg with
  | ok u =>
    rw [hb] at o
    cases u with
    | nx e g => exact o.elim
    | rt d g =>
      cases d <;> first | exact o.elim | skip
      intro own' σ' e' H' v S' ⟨l, p, vs', e1, e2, h0, hp, r'⟩
      cases e1
      rw [e2]
      exact o H' p vs' (kp S') S'.tb (S'.rg r c rfl).2.2.2 h0 hp (r'.mono (.same fun _ _ z => z) fun a q _ => ⟨q.1.1, q.2⟩)
    | bk e g => exact o.elim
    | ct e g => exact o.elim
  | err y => rw [hb] at o; exact o.elim
  | stuck => rw [hb] at o; exact o.elim
end
/-! ### the call -/
def aCallGF (i : Nat) (m : List D → Rng → Res (D × Rng)) (fs : MA) : MA := fun e g => match e[i]? with
  | some .rng => (fs e g).bind fun p => match m p.1 p.2 with
    | .ok (.lst l, g') => .ok (l, g')
    | _ => .stuck
  | _ => .stuck
section
variable {C : Ctx} {a y : Expr} {es : List Expr} {fs : MA} {fa : ME} {n : Str} {i k : Nat} {f : Addr} {fd : FuncData} {ps : List Str} {p pos : Pos}
theorem dCallGF {m : List D → Rng → Res (D × Rng)} (FF : Cal C.X.prog C.X.w C.X.K C.X.mg C.X.base k f ps (spGF C.g m)) (hr : Room k C.X.A) (hm : C.X.mg n = some (.ref f)) (hk : PySem.W.keepIn C.X.K (.ref f) = true)
    (hv : PE C.X y (tVar i)) (ha : DA C es fs) (hg : Gl C.X n := by rfl) (hdb : (n == ("__debug__" : Str)) = false := by decide) (he : starEach (y :: es) C.X.env = (false, eval y C.X.env) :: starEach es C.X.env := by rfl) (hpl : (backTo pos (starEach es C.X.env)).any (·.1) = false := by rfl) :
    DF C (.Call (.Name n p) (y :: es) [] pos) (aCallGF i m fs) := by
  obtain ⟨fd, FF, hb⟩ := FF
  exact pe_imp (pe_call (E := E0) FF hr hg hm hk hb .nil passN (pa_cons hv ha he) hdb he hpl) fun σ H Q ⟨own, F, e, g, S, o⟩ => by
    unfold aCallGF at o
    cases hs : e[i]? with
    | none => rw [hs] at o; exact o.elim
    | some s =>
      rw [hs] at o
      cases s with
      | un => exact o.elim
      | ex y => exact o.elim
      | sh d => exact o.elim
      | ow l => exact o.elim
      | me => exact o.elim
      | rng =>
        obtain ⟨r, c, h1, h2⟩ := S.sl i _ hs
        refine ⟨.ref r, h2, own, F, e, g, S, OutF.bindA o fun l g1 H1 vs x1 S1 r1 o1 => ?_⟩
        obtain ⟨hi, hc, hc0, R⟩ := S1.rg r c h1
        refine ⟨C.Al own, l, r, c, g1, vs, by simp, R, r1, fun z => z.2.2 hi, S1.tb, Al_tb, ?_⟩
        cases hm : m l g1 with
        | ok q =>
          obtain ⟨d, g2⟩ := q
          simp only [hm] at o1
          cases d <;> first | exact o1.elim | skip
          intro H' p vs' hx ht hR hn hp hv
          have x2 : ExtI C H1 H' := fun a o z n => hx a o z (fun e => n (e ▸ hi)) fun p hp z => n (.inr ⟨p, hp, z⟩)
          have S2 : SR C own F H' σ e g2 := S1.ext x2 (fun a z => by
            rcases z with ⟨c', z⟩ | ⟨p, hp, rfl⟩
            · rw [h1] at z; cases z
              exact ⟨_, hR.at_, .inl ⟨_, rfl⟩⟩
            · exact ht.at_ hp) ht fun r' c' z => by
              rw [h1] at z; cases z
              exact hR
          exact o1 H' p vs' x2 hn hp S2 (hv.mono (.same fun _ _ z => z) fun a q _ => ⟨q.1.elim id S1.fresh, q.2⟩)
        | err y => simp only [hm] at o1; exact o1.elim
        | stuck => simp only [hm] at o1; exact o1.elim
/-- x[::-1] -/
def aRev (fa : ME) : MA := fun e g => (fa e g).bind fun p => match p.1 with
  | .lst l => .ok (l.reverse, p.2)
  | _ => .stuck
theorem df_rev {j : Nat} {p1 p2 p3 : Pos} (ha : DE C a fa) : DF C (.Subscript a (.Slice none none (some (.UnaryOp .USub (.Constant (.int 1) j p1) p2)) p3) pos) (aRev fa) :=
  pe_imp (pe_revL ha) fun σ H Q ⟨own, F, e, g, S, o⟩ => ⟨own, F, e, g, S, OutF.bindE o fun d g1 H1 v x1 S1 r1 o1 => by
    cases d <;> first | exact o1.elim | skip
    obtain ⟨p, vs, rfl, h1, h2, h3⟩ := r1.toLst
    exact ⟨p, vs, rfl, SqL.of h2, fun q hq => o1.newL S1 hq h3.reverse⟩⟩
end
theorem fn_stuckGF {P : Program} {w : World} {K : PySem.W.Frag} {mg : Str → Option Value} {base : Heap} {cx : CXT} {k : Nat} {f : Addr} {fd : FuncData} {ps : List Str} {g : G} {m : List D → Rng → Res (D × Rng)} (h : ∀ ds gg, m ds gg = .stuck) : FnOk P w K mg base cx k f fd ps (spGF g m) :=
  ⟨fun vs H Q E ⟨A, ds, r, c, gg, ws, _, _, _, _, _, _, o⟩ => by rw [h] at o; exact o.elim, fun A outer s H args us vs Q E _ _ _ _ ⟨A0, ds, r, c, gg, ws, _, _, _, _, _, _, o⟩ => by rw [h] at o; exact o.elim⟩
/-! ### a new list made while others are lent -/
def borF (B : List Nat) (f : MA) : MA := fun e g => match f (borrow B e) g with
  | .ok p => if D.noLstL p.1 = true then .ok p else .stuck
  | .err x => if D.noLstL x.l = true then .err x else .stuck
  | .stuck => .stuck
theorem df_bor {C : Ctx} {x : Expr} {f : MA} (B : List Nat) (h : DF C x f) : DF C x (borF B f) := pe_imp h fun σ H Q ⟨own, F, e, g, S, o⟩ => ⟨offB B own, F, borrow B e, g, S.borrow B, by
  unfold borF at o
  cases hf : f (borrow B e) g with
  | ok p =>
    obtain ⟨d, g'⟩ := p
    rw [hf] at o
    by_cases hd : D.noLstL d = true
    · simp only [hd, if_true] at o
      exact fun H' p vs x n hp S' r => o H' p vs x n hp (S.back x S') (r.any hd)
    · simp only [hd, if_false] at o; exact o.elim
  | err y =>
    rw [hf] at o
    by_cases hd : D.noLstL y.l = true
    · simp only [hd, if_true] at o
      exact fun H' c dd x ⟨g', S'⟩ ⟨Ca, d, vs, h1, h2, h3, h4, h5, h6⟩ => o H' c dd x ⟨g', S.back x S'⟩ ⟨Ca, d, vs, h1, h2, h3, h4, h5, h6.any hd⟩
    · simp only [hd, if_false] at o; exact o.elim
  | stuck => rw [hf] at o; exact o.elim⟩
/-! ### a tuple many times -/
def dMulT : D → D → Res D := fun x y => match x, y with
  | .tup i, .int j => if 2 ≤ j ∧ j ≤ 1000 ∧ i ≠ [] ∧ i.length ≤ 1000 then .ok (.tup (List.replicate j.toNat i).flatten) else .stuck
  | _, _ => .stuck
theorem nx_mulT (x y : D) (z : Exc) : dMulT x y ≠ .err z := by
  unfold dMulT
  split
  · split <;> exact fun h => nomatch h
  · exact fun h => nomatch h
theorem opD_mulT {g : G} : OpD g (rRepT g.K) dMulT := fun x y v w H A Q rx ry o => by
  cases x <;> first | exact o.elim | skip
  cases y <;> first | exact o.elim | skip
  rename_i i j
  obtain ⟨a, vs, rfl, h1, h2⟩ := rx.toTup
  have o' : OutV g H A (if 2 ≤ j ∧ j ≤ 1000 ∧ i ≠ [] ∧ i.length ≤ 1000 then .ok (.tup (List.replicate j.toNat i).flatten) else .stuck) Q := o
  by_cases c : 2 ≤ j ∧ j ≤ 1000 ∧ i ≠ [] ∧ i.length ≤ 1000
  · rw [if_pos c] at o'
    obtain ⟨c1, c2, c3, c4⟩ := c
    have hne : vs ≠ [] := fun z => by
      have := h2.length
      rw [z] at this
      exact c3 (List.length_eq_zero_iff.mp this)
    refine ⟨a, j, vs, rfl, ry.toInt, h1, hne, c1, c2, by rw [← h2.length]; exact c4, fun p hp => o'.newT hp ?_⟩
    clear o' c1 c2
    generalize j.toNat = m
    induction m with
    | zero => exact .nil
    | succ m ih =>
      rw [List.replicate_succ, List.replicate_succ, List.flatten_cons, List.flatten_cons]
      exact h2.append ih
  · rw [if_neg c] at o'; exact o'.elim
theorem dMulTE {C : Ctx} {a b : Expr} {fa fb : ME} {pos : Pos} (ha : DE C a fa) (hb : DE C b fb) : DE C (.BinOp a .Mult b pos) (eOp dMulT fa fb) := de_bin op_repT opD_mulT nx_mulT ha hb
end DL

set_option Elab.async false
set_option linter.all false
set_option maxRecDepth 100000
/-! DLn: methods whose result is a new list. -/
namespace DL
open PySem PySem.Spec PyProof.Rows L2
theorem CalM.ofF {P : Program} {w : World} {K : PySem.W.Frag} {mg : Str → Option Value} {base : Heap} {k : Nat} {nm qual : Str} {st : Stmt} {dvs : List V} {kws : List (Str × V)} {f : Addr} {ps : List Str} {g : G} {m : List D → Res D} (h : CalM P w K mg base k nm qual st dvs kws f ps (spF g m)) (hm : ∀ ds d, m ds = .ok d → ∃ l, d = .lst l) : CalM P w K mg base k nm qual st dvs kws f ps (spD g m) := by
  obtain ⟨fd, F1, F2⟩ := h
  exact ⟨fd, F1.imp fun vs H Q E => spF_of hm, F2⟩
def lstR (r : Res D) (g : Rng) : Res (List D × Rng) := match r with
  | .ok (.lst l) => .ok (l, g)
  | .err x => .err x
  | _ => .stuck
def aMethK (cls m : Str) (n nk : Nat) (f : List D → List D → Res D) (fa : ME) (fs fk : MA) : MA := fun e g => (fa e g).bind fun p => match p.1 with
  | .ins c ns l => if c = cls ∧ m ∉ ns then (fs e p.2).bind fun q => (fk e q.2).bind fun r => if q.1.length = n ∧ r.1.length = nk then lstR (f (.ins c ns l :: q.1) r.1) r.2 else .stuck
    else .stuck
  | _ => .stuck
theorem outF_toD {C : Ctx} {own : Own} {F H : Hp} {σ : L2.St} {e : En} {g : Rng} {r : Res D} {Q : VK} (S : SR C own F H σ e g) (o2 : OutF C own F σ e H (lstR r g) Q) : OutDF C.g H (C.Al own) (WE C.W σ) r Q := by
  have up : ∀ {a : Addr}, (C.Al own a ∨ H a = none) → C.Al own a := fun q => q.elim id S.fresh
  unfold lstR at o2
  cases hml : r with
  | ok d =>
    rw [hml] at o2
    cases d <;> first | exact o2.elim | skip
    exact fun H' p vs s t n hp r => o2 H' p vs (S.call s t).1 n hp (S.call s t).2 (r.mono (.same fun _ _ z => z) fun a q _ => ⟨up q.1, q.2⟩)
  | err y =>
    rw [hml] at o2
    exact fun H' c dd s t ⟨Ca, d, ws, h1, h2, h3, h4, h5, h6⟩ => o2 H' c dd (S.call s t).1 ⟨g, (S.call s t).2⟩ ⟨Ca, d, ws, h1, h2, h3, h4, h5, h6.mono (.same fun _ _ z => z) fun a q _ => up q⟩
  | stuck => rw [hml] at o2; exact o2.elim
section
variable {C : Ctx} {cls m nm qual : Str} {st : Stmt} {Ca f : Addr} {k n : Nat} {fa : ME} {fs fk : MA} {o a : Expr} {es : List Expr} {kws : List Keyword} {apos pos : Pos} {ps ks : List Str} {dvs msv : List V} {kd : List (Str × V)} {dd md : List D} {src : List Src} {mm : List D → Res D}
theorem methK_redF (hc : C.cm cls = some Ca) (hdd : ∀ H A, RepL C.g H A dd dvs) (hmd : ∀ H A, RepL C.g H A md msv) {σ : L2.St} {H : Hp} {Q : VK} (h : tDF C (aMethK cls m n ks.length (fun us ws => mm (picks .non us ws dd md src)) fa fs fk) σ H Q) :
    tMethND Ca m n ks.length (spF C.g mm) (fun vs zs => picks .non vs zs dvs msv src) (WE C.W) (tD C fa) (tDA C fs) (tDA C fk) σ H Q := by
  obtain ⟨own, F, e, g, S, o⟩ := h
  refine ⟨own, F, e, g, S, OutF.bindE o fun d g0 H0 v x0 S0 r0 o0 => ?_⟩
  cases d <;> first | exact o0.elim | skip
  rename_i c ns l
  by_cases hcc : c = cls ∧ m ∉ ns
  · simp only [hcc, not_false_iff, and_self, if_true] at o0
    obtain ⟨a, C1, dx, vs0, rfl, h1, h2, h3, h4, h5⟩ := toIns r0
    have e1 : C1 = Ca := by
      rw [hcc.1] at h2
      have : some C1 = some Ca := h2.symm.trans hc
      cases this; rfl
    subst e1
    refine ⟨a, dx, _, rfl, h3, zip_look0 hcc.2, own, F, e, g0, S0, OutF.bindA o0 fun l1 g1 H1 vs x1 S1 r1 o1 => ⟨own, F, e, g1, S1, OutF.bindA o1 fun l2 g2 H2 zs x2 S2 r2 o2 => ?_⟩⟩
    by_cases hl : l1.length = n ∧ l2.length = ks.length
    · simp only [hl, and_self, if_true] at o2
      have ri : Rep C.g H2 (C.Al own) (.ins cls ns l) (.ref a) := by
        have := S1.rep x2 (S0.rep x1 r0)
        rw [hcc.1] at this
        exact this
      exact ⟨r1.length.symm.trans hl.1, r2.length.symm.trans hl.2, C.Al own, _, rep_picks (.cons ri (S1.repL x2 r1)) r2 (hdd _ _) (hmd _ _) src, S2.tb, Al_tb, outF_toD S2 o2⟩
    · simp only [hl, if_false] at o2
      exact o2.elim
  · simp only [hcc, if_false] at o0
    exact o0.elim
theorem dMethFN {pl : Sem Bool} (FF : CalM C.X.prog C.X.w C.X.K C.X.mg C.X.base k nm qual st dvs kd f ps (spF C.g mm)) (hr : Room k C.X.A) (tk : L2N.Takes C.X C.W) (hc : C.cm cls = some Ca) (cl : Cls C.X.K Ca) (hm : Meth C.X.K Ca m f)
    (hb : ∀ fd, FunD C.X.K nm qual (defArgs st) (defBody st) (defScope st) dvs kd f fd → KBs C.X.K fd ps (n + 1) ks dvs msv src) (hdd : ∀ H A, RepL C.g H A dd dvs) (hmd : ∀ H A, RepL C.g H A md msv)
    (ho : DE C o fa) (ha : DA C (a :: es) fs) (hkw : DK C kws fk) (hall : (backToKw pos (keywordEach kws C.X.env)).all (·.1.isSome) = true := by rfl) (hks : (backToKw pos (keywordEach kws C.X.env)).filterMap (·.1) = ks := by rfl)
    (hst : starEach (a :: es) C.X.env = (false, eval a C.X.env) :: starEach es C.X.env := by rfl)
    (hpl : ((backTo pos (starEach (a :: es) C.X.env)).any (·.1) || (backToKw pos (keywordEach kws C.X.env)).any (·.1.isNone)) = false := by rfl)
    (ht : eval (.Call (.Attribute o m apos) (a :: es) kws pos) C.X.env = (do
      let ov ← eval o C.X.env
      standAt apos.atName
      let (f, first) ← holding [ov] (getMethod ov m pl)
      callWith pos f first (backTo pos (starEach (a :: es) C.X.env)) (backToKw pos (keywordEach kws C.X.env))) := by rfl) :
    DF C (.Call (.Attribute o m apos) (a :: es) kws pos) (aMethK cls m n ks.length (fun us ws => mm (picks .non us ws dd md src)) fa fs fk) := by
  obtain ⟨fd, F1, F2⟩ := FF
  obtain ⟨its, mv, hkb⟩ := hb fd F2
  exact pe_imp (pe_methND (E := WE C.W) ho cl hm F1 hr hkb (fun σ => L2N.passAt tk σ) ha hkw hall hks hst hpl ht) fun σ H Q h => methK_redF hc hdd hmd h
theorem dMethFN0 {pl : Sem Bool} (FF : CalM C.X.prog C.X.w C.X.K C.X.mg C.X.base k nm qual st dvs kd f ps (spF C.g mm)) (hr : Room k C.X.A) (tk : L2N.Takes C.X C.W) (hc : C.cm cls = some Ca) (cl : Cls C.X.K Ca) (hm : Meth C.X.K Ca m f)
    (hb : ∀ fd, FunD C.X.K nm qual (defArgs st) (defBody st) (defScope st) dvs kd f fd → KBs C.X.K fd ps 1 [] dvs msv src) (hdd : ∀ H A, RepL C.g H A dd dvs) (hmd : ∀ H A, RepL C.g H A md msv)
    (ho : DE C o fa)
    (ht : eval (.Call (.Attribute o m apos) [] [] pos) C.X.env = (do
      let ov ← eval o C.X.env
      standAt apos.atName
      let (f, first) ← holding [ov] (getMethod ov m pl)
      callWith pos f first (backTo pos (starEach [] C.X.env)) (backToKw pos (keywordEach [] C.X.env))) := by rfl) :
    DF C (.Call (.Attribute o m apos) [] [] pos) (aMethK cls m 0 0 (fun us ws => mm (picks .non us ws dd md src)) fa aNil aNil) := by
  obtain ⟨fd, F1, F2⟩ := FF
  obtain ⟨its, mv, hkb⟩ := hb fd F2
  refine pe_imp (pe_methND0 (E := WE C.W) ho cl hm F1 hr hkb (fun σ => L2N.passAt tk σ) ht) fun σ H Q h => ?_
  obtain ⟨own, F, e, g, S, o⟩ := h
  obtain ⟨own', F', e', g', S', o'⟩ := methK_redF (ks := []) (fs := aNil) (fk := aNil) (n := 0) hc hdd hmd ⟨own, F, e, g, S, o⟩
  refine ⟨own', F', e', g', S', ?_⟩
  unfold OutE at o' ⊢
  cases hfa : fa e' g' with
  | ok p =>
    rw [hfa] at o'
    intro H2 v x S2 r2
    obtain ⟨a, dx, fs, h1, h2, h3, own3, F3, e3, g3, S3, o3⟩ := o' H2 v x S2 r2
    obtain ⟨own4, F4, e4, g4, S4, o4⟩ := o3 H2 [] (.refl H2) S3 .nil
    exact ⟨a, dx, fs, h1, h2, h3, o4 H2 [] (.refl H2) S4 .nil⟩
  | err y => rw [hfa] at o'; exact o'
  | stuck => rw [hfa] at o'; exact o'
end
section
variable {X : Cx} {CX : CXT} {k n : Nat} {f Ca : Addr} {fd : FuncData} {ps ks : List Str} {sp : Sp} {E : L2.St → XK} {m : Str} {apos pos : Pos} {o e : Expr} {kws : List Keyword} {ta : TE} {t tk : TA} {g : List Value → List Value → List Value} {gV : List V → List V → List V}
theorem pe_methNDk {pl : Sem Bool} (he : PE X o ta) (c : Cls X.K Ca) (hm : Meth X.K Ca m f) (F : FnOk X.prog X.w X.K X.mg X.base CX k f fd ps sp) (hr : Room k X.A) (hb : KBn X.K fd ps 1 ks g gV) (hx : ∀ σ, PassesAt CX X σ (E σ)) (hkw : PK X kws tk)
    (hall : (backToKw pos (keywordEach kws X.env)).all (·.1.isSome) = true := by rfl) (hks : (backToKw pos (keywordEach kws X.env)).filterMap (·.1) = ks := by rfl)
    (hpl : ((backTo pos (starEach [] X.env)).any (·.1) || (backToKw pos (keywordEach kws X.env)).any (·.1.isNone)) = false := by rfl)
    (ht : eval (.Call (.Attribute o m apos) [] kws pos) X.env = (do
      let ov ← eval o X.env
      standAt apos.atName
      let (f, first) ← holding [ov] (getMethod ov m pl)
      callWith pos f first (backTo pos (starEach [] X.env)) (backToKw pos (keywordEach kws X.env))) := by rfl) :
    PE X (.Call (.Attribute o m apos) [] kws pos) (tMethND Ca m 0 ks.length sp gV E ta tNil tk) := by
  refine ⟨fun pins s σ H Q I h => ?_⟩
  refine PySem.W.methodCall_KW (pl := pl) (thn (he.run pins s σ H _ I h) fun u s1 ⟨x, H1, I1, rx, a, dx, fs, ex, ea, l, q⟩ => ?_) ht
  subst ex
  obtain rfl : u = Value.ref a := rx
  refine getmeth_ok I1 ea c hm l ?_
  refine PySem.W.callWith_KW0 (first := [.ref a]) (h₀ := X.base) I.ok.mod.kin hm.kp hall ?_ hpl
  have q' : tk σ H1 fun zs H3 => (0 : Nat) = 0 ∧ zs.length = ks.length ∧ sp (gV [.ref a] zs) H3 Q (E σ) := q
  refine thn (hkw.run pos pins s1 σ H1 _ I1 q') fun ws s3 ⟨zs, H3, I3, rz, l1, l2, q3⟩ => ⟨I3.kIn, ?_⟩
  rw [hks]
  exact run_fnND (us := [.ref a]) (vs := [.ref a]) F hr hb (hx σ) I3 (.cons rfl .nil) rz rfl l2 q3
end
section
variable {C : Ctx} {cls m nm qual : Str} {st : Stmt} {Ca f : Addr} {k n : Nat} {fa : ME} {fs fk : MA} {o a : Expr} {es : List Expr} {kws : List Keyword} {apos pos : Pos} {ps ks : List Str} {dvs msv : List V} {kd : List (Str × V)} {dd md : List D} {src : List Src} {mm : List D → Res D}
theorem tnil_DA {σ : L2.St} {H : Hp} {Q : List V → Hp → Prop} (h : tDA C aNil σ H Q) : Q [] H := by
  obtain ⟨own, F, e, g, S, o⟩ := h
  exact o H [] (.refl H) S .nil
theorem dMethNk {pl : Sem Bool} (FF : CalM C.X.prog C.X.w C.X.K C.X.mg C.X.base k nm qual st dvs kd f ps (spD C.g mm)) (hr : Room k C.X.A) (tk : L2N.Takes C.X C.W) (hc : C.cm cls = some Ca) (cl : Cls C.X.K Ca) (hm : Meth C.X.K Ca m f)
    (hb : ∀ fd, FunD C.X.K nm qual (defArgs st) (defBody st) (defScope st) dvs kd f fd → KBs C.X.K fd ps 1 ks dvs msv src) (hdd : ∀ H A, RepL C.g H A dd dvs) (hmd : ∀ H A, RepL C.g H A md msv)
    (ho : DE C o fa) (hkw : DK C kws fk) (hall : (backToKw pos (keywordEach kws C.X.env)).all (·.1.isSome) = true := by rfl) (hks : (backToKw pos (keywordEach kws C.X.env)).filterMap (·.1) = ks := by rfl)
    (hpl : ((backTo pos (starEach [] C.X.env)).any (·.1) || (backToKw pos (keywordEach kws C.X.env)).any (·.1.isNone)) = false := by rfl)
    (ht : eval (.Call (.Attribute o m apos) [] kws pos) C.X.env = (do
      let ov ← eval o C.X.env
      standAt apos.atName
      let (f, first) ← holding [ov] (getMethod ov m pl)
      callWith pos f first (backTo pos (starEach [] C.X.env)) (backToKw pos (keywordEach kws C.X.env))) := by rfl) :
    DE C (.Call (.Attribute o m apos) [] kws pos) (eMethK cls m 0 ks.length (fun us ws => mm (picks .non us ws dd md src)) fa aNil fk) := by
  obtain ⟨fd, F1, F2⟩ := FF
  obtain ⟨its, mv, hkb⟩ := hb fd F2
  refine pe_imp (pe_methNDk (E := WE C.W) ho cl hm F1 hr hkb (fun σ => L2N.passAt tk σ) hkw hall hks hpl ht) fun σ H Q h => ?_
  obtain ⟨own, F, e, g, S, o⟩ := methK_red hc hdd hmd h
  refine ⟨own, F, e, g, S, ?_⟩
  unfold OutE at o ⊢
  cases hfa : fa e g with
  | ok p =>
    rw [hfa] at o
    intro H2 v x S2 r2
    obtain ⟨a, dx, fs, h1, h2, h3, h4⟩ := o H2 v x S2 r2
    exact ⟨a, dx, fs, h1, h2, h3, tnil_DA h4⟩
  | err y => rw [hfa] at o; exact o
  | stuck => rw [hfa] at o; exact o
end
end DL

set_option Elab.async false
set_option linter.all false
set_option maxRecDepth 100000
/-! DLd: dict(d), d != e for dicts of trees. -/
namespace DL
open PySem PySem.Spec PyProof.Rows L2
/-! ### a copy -/
theorem call_dictC {X : Cx} : CallR X (.type "dict") (fun xs H Q => ∃ (a : Addr) (kvs : List (Key × V)), xs = [.ref a] ∧ H a = some (.dK kvs) ∧ ∀ p, H p = none → Q (.ref p) (upd H p (.dK kvs))) := by
  intro pins s σ H xs us Q I r q
  obtain ⟨a, kvs, ex, hq, q⟩ := q
  subst ex
  obtain ⟨u, eu, rx⟩ := vals1 r
  subst eu
  cases rx
  exact d_copyOf I (.inl hq) fun p s' hp I' => ⟨.ref p, _, I', rfl, q p hp⟩
def dDictC : List D → Res D
  | [.dic ks l] => .ok (.dic ks l)
  | _ => .stuck
theorem nx_dictC (x : List D) (z : Exc) : dDictC x ≠ .err z := by
  unfold dDictC
  split <;> exact fun h => nomatch h
theorem callD_dictC {g : G} : CallD g (fun xs H Q => ∃ (a : Addr) (kvs : List (Key × V)), xs = [.ref a] ∧ H a = some (.dK kvs) ∧ ∀ p, H p = none → Q (.ref p) (upd H p (.dK kvs))) dDictC := fun xs vs H A Q r o => by
  unfold dDictC at o
  split at o
  · rename_i ks l
    obtain ⟨v, vs', rfl, h1, h2⟩ := r.toCons
    obtain ⟨a, ws, rfl, h3, h4, h5, h6⟩ := toDic h1
    rw [h2.toNil]
    refine ⟨a, ks.zip ws, rfl, h4, fun p hp => ?_⟩
    have s : Same H (upd H p (.dK (ks.zip ws))) := fun a o e => by rw [upd_ne (ne_of_none e hp)]; exact e
    exact o _ _ s (dic_ (.inr hp) (by rw [upd_same]) h5 (h6.mono (.same s) fun a q _ => .inl q))
  · exact o.elim
/-! ### two dicts compared -/
def rNeK (K : PySem.W.Frag) : R2 := fun x y H Q => ∃ a b ks ls, x = .ref a ∧ y = .ref b ∧ H a = some (.dK ks) ∧ H b = some (.dK ls) ∧ ks.length = ls.length ∧
  (∀ p ∈ ks, ∃ u d e, valV ls p.1 = some u ∧ Dp K H p.2 d ∧ Dp K H u e ∧ SeqAt.shaped d = true ∧ SeqAt.shaped e = true ∧ PyData.eqv d e = true) ∧ Q (.bl false) H
theorem hits_deep {X : Cx} {pins : List (Addr × Obj)} {σ : L2.St} {H : Hp} {s : Shared} (I : Inv X pins σ H s) (hu : X.A.in1.units + 64 < cLine) {kvs : List (Key × V)} {vb : List (Key × Value)} (rb : L2.KV kvs vb) {ks : List (Key × V)} {va : List (Key × Value)} (ra : L2.KV ks va) :
    (∀ p ∈ ks, ∃ u d e, valV kvs p.1 = some u ∧ Dp X.K H p.2 d ∧ Dp X.K H u e ∧ SeqAt.shaped d = true ∧ SeqAt.shaped e = true ∧ PyData.eqv d e = true) → PySem.W.KeqHits X.A.in1 s vb va true := by
  unfold L2.KV at ra
  induction ra with
  | nil => intro _; exact .nil
  | @cons p q ps qs h t ih =>
    intro hp
    obtain ⟨h1, h2⟩ := h
    obtain ⟨u, d, e, e1, e2, e3, e4, e5, e6⟩ := hp p List.mem_cons_self
    have rr : RelO (some u) (valueAt vb p.1) := by rw [← e1]; exact rb.val p.1
    obtain ⟨y, hy, ry⟩ := rr.some_of
    obtain ⟨k, v⟩ := q
    have h1' : p.1 = k := h1
    rw [h1'] at hy
    show PySem.W.KeqHits X.A.in1 s vb ((k, v) :: qs) (true && true)
    obtain ⟨as, r1⟩ := Dp.reads I d p.2 v e2 h2
    obtain ⟨bs, r2⟩ := Dp.reads I e u y e3 ry
    have z := PySem.W.keq_at (A := X.A) r1 r2 e4 e5 hu
    rw [e6] at z
    exact .hit hy z (ih fun p' hm => hp p' (List.mem_cons_of_mem _ hm))
theorem op_neK {X : Cx} (hu : X.A.in1.units + 64 < cLine) : OpR X (compareOp .NotEq) (rNeK X.K) := by
  intro pins s σ H x y v u Q I rx ry h
  obtain ⟨a, b, ks, ls, rfl, rfl, ea, eb, hlen, hp, q⟩ := h
  obtain rfl : v = Value.ref a := rx
  obtain rfl : u = Value.ref b := ry
  obtain ⟨_, ya, va, ra, da⟩ := (show ObjOk X.prog X.w H s.heap a (.dK ks) from I.hok a _ ea)
  obtain ⟨_, yb, vb, rb, db⟩ := (show ObjOk X.prog X.w H s.heap b (.dK ls) from I.hok b _ eb)
  have hl : va.length = vb.length := by rw [← ra.length, ← rb.length]; exact hlen
  have hu1 : X.A.units < cLine := Nat.lt_of_le_of_lt (Nat.le_trans (Nat.le_succ _) (Nat.le_add_right _ 64)) hu
  exact PySem.W.keq_ne (knd := mixKind X.prog X.w) (r := true) ya yb da db hu1 (fun _ => hits_deep I hu rb ra hp) (fin_bl I q (by simp [hl]))
def eqK (m : List (Key × D)) (p : Key × D) : Bool := match valA m p.1 with
  | some d => SeqAt.shaped p.2.py && SeqAt.shaped d.py && PyData.eqv p.2.py d.py
  | none => false
def dNeK (x y : D) : Res D := match x, y with
  | .dic ks l, .dic ks2 l2 => if (ks.zip l).length = (ks2.zip l2).length ∧ ((ks.zip l).all (eqK (ks2.zip l2))) = true then .ok (.bl false) else .stuck
  | _, _ => .stuck
theorem nx_neK (x y : D) (z : Exc) : dNeK x y ≠ .err z := by
  unfold dNeK
  split
  · split <;> exact fun h => nomatch h
  · exact fun h => nomatch h
theorem RepK.length {g : G} {H : Hp} {A : Addr → Prop} {m : List (Key × D)} {kvs : List (Key × V)} (r : RepK g H A m kvs) : m.length = kvs.length := by
  induction r with
  | nil => rfl
  | cons h r ih => rw [List.length_cons, List.length_cons, ih]
theorem RepK.mem {g : G} {H : Hp} {A : Addr → Prop} {m : List (Key × D)} {kvs : List (Key × V)} (r : RepK g H A m kvs) : ∀ p, p ∈ kvs → ∃ d, (p.1, d) ∈ m ∧ Rep g H A d p.2 := by
  induction r with
  | nil => intro p h; cases h
  | cons h r ih =>
    intro p hp
    rcases List.mem_cons.mp hp with rfl | hp
    · exact ⟨_, List.mem_cons_self, h⟩
    · obtain ⟨d, h1, h2⟩ := ih p hp
      exact ⟨d, List.mem_cons_of_mem _ h1, h2⟩
theorem opD_neK {g : G} : OpD g (rNeK g.K) dNeK := fun x y v w H A Q rx ry o => by
  cases x <;> first | exact o.elim | skip
  rename_i ks l
  cases y <;> first | exact o.elim | skip
  rename_i ks2 l2
  have o2 : OutV g H A (if (ks.zip l).length = (ks2.zip l2).length ∧ ((ks.zip l).all (eqK (ks2.zip l2))) = true then .ok (.bl false) else .stuck) Q := o
  by_cases hc : (ks.zip l).length = (ks2.zip l2).length ∧ ((ks.zip l).all (eqK (ks2.zip l2))) = true
  · rw [if_pos hc] at o2
    obtain ⟨a, vs, rfl, h1, h2, h3, h4⟩ := toDic rx
    obtain ⟨b, ws, rfl, h5, h6, h7, h8⟩ := toDic ry
    have r1 := RepK.of (vs := []) h3 h4
    have r2 := RepK.of (vs := []) h7 h8
    refine ⟨a, b, _, _, rfl, rfl, h2, h6, by rw [← r1.length, ← r2.length]; exact hc.1, fun p hp => ?_, OutV.bl o2⟩
    obtain ⟨d, q1, q2⟩ := r1.mem p hp
    have q3 := List.all_eq_true.mp hc.2 _ q1
    unfold eqK at q3
    cases hv : valA (ks2.zip l2) p.1 with
    | none => simp only [hv] at q3; cases q3
    | some e =>
      simp only [hv] at q3
      rw [Bool.and_eq_true, Bool.and_eq_true] at q3
      obtain ⟨u, u1, u2⟩ := (r2.val p.1).2 e hv
      exact ⟨u, d.py, e.py, u1, dp_of q3.1.1 q2, dp_of q3.1.2 u2, q3.1.1, q3.1.2, q3.2⟩
  · rw [if_neg hc] at o2; exact o2.elim
section
variable {C : Ctx} {a b : Expr} {fa fb : ME} {fs : MA} {p pos : Pos}
theorem dDictCE (hm : C.X.mg "dict" = none) (ha : DA C [a] fs) (hg : Gl C.X "dict" := by rfl) (he : starEach [a] C.X.env = (false, eval a C.X.env) :: starEach [] C.X.env := by rfl) (hpl : (backTo pos (starEach [] C.X.env)).any (·.1) = false := by rfl) :
    DE C (.Call (.Name "dict" p) [a] [] pos) (eCall dDictC fs) := pe_imp (pe_callTy call_dictC hg hm (by decide +kernel) ha (by decide) (by decide) he hpl) (tD_call callD_dictC nx_dictC)
theorem dNeKE (ha : DE C a fa) (hb : DE C b fb) (hu : C.X.A.units + 65 < cLine) : DE C (.Compare a [.NotEq] [b] pos) (eOp dNeK fa fb) := de_cmp (op_neK (by show C.X.A.units + 1 + 64 < cLine; omega)) opD_neK nx_neK ha hb (nomark _)
theorem dNeKT (ha : DE C a fa) (hb : DE C b fb) (hu : C.X.A.units + 65 < cLine) : DT C (.Compare a [.NotEq] [b] pos) (eTest (eOp dNeK fa fb)) := dt_cmp (op_neK (by show C.X.A.units + 1 + 64 < cLine; omega)) opD_neK nx_neK ha hb (nomark _)
end
end DL
namespace DL
open PySem PySem.Spec PyProof.Rows L2
/-! ### {k: v, ..} of values without lists -/
theorem codeO_dK {c : Addr} {q : Str} {xs : List (Key × V)} : LamX.CodeO c q ≠ .dK xs := fun z => by
  unfold LamX.CodeO at z
  cases z
theorem Tabs.updK {T : List (Addr × Str)} {H : Hp} {a : Addr} {xs : List (Key × V)} {o : HO} (t : Tabs T H) (h : H a = some (.dK xs)) : Tabs T (L2.upd H a o) := fun p hp => by
  obtain ⟨ps, h1, h2, h3⟩ := t p hp
  have n1 : p.1 ≠ a := fun z => by rw [z, h] at h1; cases h1
  refine ⟨ps, by rw [L2.upd_ne n1]; exact h1, h2, fun pos cv hc => ?_⟩
  obtain ⟨c, e1, e2⟩ := h3 pos cv hc
  have n2 : c ≠ a := fun z => by rw [z, h] at e2; exact codeO_dK (Option.some.inj e2).symm
  exact ⟨c, e1, by rw [L2.upd_ne n2]; exact e2⟩
theorem rb_ok {α β : Type} {a : α} {k : α → Res β} : (Res.ok a).bind k = k a := rfl
def mPairs : List (ME × ME) → En → Rng → Res (List (D × D) × Rng)
  | [], _, g => .ok ([], g)
  | (fk, fv) :: r, e, g => (fk e g).bind fun p => (fv e p.2).bind fun q => (mPairs r e q.2).bind fun l => .ok ((p.1, q.1) :: l.1, l.2)
def keysP : List (D × D) → Option (List (Key × D))
  | [] => some []
  | (k, d) :: l => match keyOf k with
    | some k => if d.noLst = true then (keysP l).map ((k, d) :: ·) else none
    | none => none
def dispR (l : List (D × D)) : Res D := match keysP l with
  | some m => if m.length ≤ 15 then .ok (.dic ((mergeA [] m).map (·.1)) ((mergeA [] m).map (·.2))) else .stuck
  | none => .stuck
def eDisp (fs : List (ME × ME)) : ME := fun e g => (mPairs fs e g).bind fun p => (dispR p.1).bind fun d => .ok (d, p.2)
abbrev RepP (g : G) (H : Hp) (A : Addr → Prop) : List (D × D) → List (V × V) → Prop := Paired fun d v => Rep g H A d.1 v.1 ∧ Rep g H A d.2 v.2
def OutQ (C : Ctx) (own : Own) (F : Hp) (σ : L2.St) (e : En) (H : Hp) (r : Res (List (D × D) × Rng)) (Q : List (V × V) → Hp → Prop) : Prop :=
  match r with
  | .ok (l, g') => ∀ H' ps, ExtI C H H' → SR C own F H' σ e g' → RepP C.g H' (C.Al own) l ps → Q ps H'
  | .err x => ∀ H' c dd, ExtI C H H' → (∃ g', SR C own F H' σ e g') → RepX C.g H' (C.Al own) x c dd → C.W c dd σ H'
  | .stuck => False
theorem pairs_run {C : Ctx} {own : Own} {F : Hp} {σ : L2.St} {e : En} : ∀ {fs : List (ME × ME)} {H : Hp} {g : Rng} {Q : List (V × V) → Hp → Prop}, SR C own F H σ e g → OutQ C own F σ e H (mPairs fs e g) Q → tPairs (fs.map fun p => (tD C p.1, tD C p.2)) σ H Q
  | [], H, g, Q, S, o => o H [] (ExtI.refl H) S .nil
  | (fk, fv) :: r, H, g, Q, S, o => by
    rw [mPairs] at o
    refine ⟨own, F, e, g, S, ?_⟩
    show OutE C own F σ e H (fk e g) _
    cases h1 : fk e g with
    | stuck => rw [h1] at o; exact o.elim
    | err x => rw [h1] at o; exact o
    | ok p =>
      obtain ⟨d, g1⟩ := p
      rw [h1, rb_ok] at o
      intro H1 v x1 S1 r1
      refine ⟨own, F, e, g1, S1, ?_⟩
      show OutE C own F σ e H1 (fv e g1) _
      cases h2 : fv e g1 with
      | stuck => rw [h2] at o; exact o.elim
      | err x =>
        rw [h2] at o
        intro H' c dd x' s' rx
        exact o H' c dd (x1.trans x') s' rx
      | ok q =>
        obtain ⟨d2, g2⟩ := q
        rw [h2, rb_ok] at o
        intro H2 v2 x2 S2 r2
        refine pairs_run (fs := r) S2 ?_
        cases h3 : mPairs r e g2 with
        | stuck => rw [h3] at o; exact o.elim
        | err x =>
          rw [h3] at o
          intro H' c dd x' s' rx
          exact o H' c dd ((x1.trans x2).trans x') s' rx
        | ok z =>
          obtain ⟨l, g3⟩ := z
          rw [h3, rb_ok] at o
          intro H3 ps x3 S3 r3
          exact o H3 _ ((x1.trans x2).trans x3) S3 (.cons ⟨S1.rep (x2.trans x3) r1, S2.rep x3 r2⟩ r3)
theorem keysP_rep {g : G} {H : Hp} {A : Addr → Prop} : ∀ {l : List (D × D)} {ps : List (V × V)} {m : List (Key × D)}, keysP l = some m → RepP g H A l ps →
    ∃ kvs : List (Key × V), ps = kvs.map (fun kv => (kV kv.1, kv.2)) ∧ RepK g H A m kvs ∧ ∀ p, p ∈ m → p.2.noLst = true
  | [], ps, m, e, h => by
    cases e
    cases h
    exact ⟨[], rfl, .nil, fun p hp => by cases hp⟩
  | (k, d) :: l, ps, m, e, h => by
    cases h with
    | @cons _ b _ bs h t =>
      rw [keysP] at e
      cases hk : keyOf k with
      | none => rw [hk] at e; cases e
      | some k' =>
        rw [hk] at e
        by_cases hd : d.noLst = true
        · simp only [hd, if_true] at e
          obtain ⟨m', h1, rfl⟩ := Option.map_eq_some_iff.mp e
          obtain ⟨kvs, rfl, h2, h3⟩ := keysP_rep h1 t
          obtain ⟨b1, b2⟩ := b
          refine ⟨(k', b2) :: kvs, ?_, .cons h.2 h2, fun p hp => ?_⟩
          · rw [List.map_cons]
            have := keyOf_rep hk h.1
            simp only at this
            rw [this]
          · rcases List.mem_cons.mp hp with rfl | hp
            · exact hd
            · exact h3 p hp
        · simp only [hd, if_false] at e
          cases e
theorem RepK.map {g : G} {H H' : Hp} {A A' : Addr → Prop} {m : List (Key × D)} {kvs : List (Key × V)} (r : RepK g H A m kvs) : (∀ p, p ∈ m → ∀ v, Rep g H A p.2 v → Rep g H' A' p.2 v) → RepK g H' A' m kvs := by
  induction r with
  | nil => exact fun _ => .nil
  | cons h r ih => exact fun k => .cons (k _ List.mem_cons_self _ h) (ih fun p hp => k p (List.mem_cons_of_mem _ hp))
section
variable {C : Ctx} {pos : Pos} {keys : List (Option Expr)} {values : List Expr} {fs : List (ME × ME)}
theorem dps_nil : PPs C.X pos [] [] (([] : List (ME × ME)).map fun p => (tD C p.1, tD C p.2)) := pps_nil
theorem dps_cons {k v : Expr} {fk fv : ME} (hk : DE C k fk) (hv : DE C v fv) (hr : PPs C.X pos keys values (fs.map fun p => (tD C p.1, tD C p.2))) : PPs C.X pos (some k :: keys) (v :: values) (((fk, fv) :: fs).map fun p => (tD C p.1, tD C p.2)) := pps_cons hk hv hr
theorem de_disp (h : PPs C.X pos keys values (fs.map fun p => (tD C p.1, tD C p.2))) (hall : keys.all (·.isSome) = true := by rfl) (hl : keys.length = values.length := by rfl) (h0 : keys ≠ [] := by exact fun h => nomatch h) (h15 : keys.length ≤ 15 := by decide) : DE C (.Dict keys values pos) (eDisp fs) :=
  pe_imp (pe_disp h hall hl h0 h15) fun σ H Q ⟨own, F, e, g, S, o⟩ p hp => by
    have s1 : Same H (upd H p (.dK [])) := fun a o e => by rw [upd_ne (ne_of_none e hp)]; exact e
    have ni : ¬ C.io p := fun hi => by
      obtain ⟨o, z, _⟩ := S.io p hi
      rw [hp] at z; cases z
    refine pairs_run (S.same s1) ?_
    unfold eDisp at o
    cases hm : mPairs fs e g with
    | stuck => rw [hm] at o; exact o.elim
    | err x =>
      rw [hm] at o
      intro H' c dd x' s' rx
      exact o H' c dd ((ExtI.of s1).trans x') s' rx
    | ok z =>
      obtain ⟨l, g'⟩ := z
      rw [hm, rb_ok] at o
      intro H2 ps x S2 rp
      have hp2 : H2 p = some (.dK []) := x p _ upd_same ni
      unfold dispR at o
      cases hk : keysP l with
      | none => simp only [hk] at o; exact o.elim
      | some m =>
        simp only [hk] at o
        by_cases hlen : m.length ≤ 15
        · simp only [hlen, if_true, rb_ok] at o
          obtain ⟨kvs, rfl, h2, h3⟩ := keysP_rep hk rp
          refine ⟨hp2, kvs, rfl, by rw [← h2.length]; exact hlen, ?_⟩
          have kp : Keep (fun _ => False) H2 (upd H2 p (.dK (mergeK [] kvs))) := ⟨fun a xs q => by
            have n : a ≠ p := fun z => by
              rw [z] at q
              rcases q with q | ⟨o, q⟩ <;> rw [hp2] at q <;> cases q
            rcases q with q | ⟨o, q⟩
            · exact .inl (by rw [upd_ne n]; exact q)
            · exact .inr ⟨o, by rw [upd_ne n]; exact q⟩, fun a o q => q.elim⟩
          have r3 : RepK C.g (upd H2 p (.dK (mergeK [] kvs))) (C.Al own) m kvs := h2.map fun q hq v rv => Rep.any (A := fun _ => False) (h3 q hq) (Rep.mono kp (fun a q => q.elim) (Rep.any (A' := fun _ => False) (h3 q hq) rv))
          obtain ⟨us, e1, e2, e3⟩ := (RepK.merge r3 RepK.nil).out
          have x3 : ExtI C H (upd H2 p (.dK (mergeK [] kvs))) := fun a o q n => by
            rw [upd_ne (ne_of_none q hp)]
            exact x a o (s1 a o q) n
          refine o _ (.ref p) x3 (S.ext x3 (fun a hi => ?_) (S2.tb.updK hp2) fun r c hr => ?_) (dic_ (S.fresh hp) (by rw [upd_same, e1]) e2 e3)
          · obtain ⟨o, q1, q2⟩ := S2.io a hi
            exact ⟨o, by rw [upd_ne (show a ≠ p from fun z => ni (z ▸ hi))]; exact q1, q2⟩
          · obtain ⟨q1, q2, q3, R⟩ := S2.rg r c hr
            have np : r ≠ p := fun z => ni (z ▸ q1)
            have nc : c ≠ p := fun z => by
              have := R.ce
              rw [z, hp2] at this; cases this
            exact ⟨R.ne, by rw [upd_ne np]; exact R.at_, by rw [upd_ne nc]; exact R.ce, R.i0, R.b0, R.s0, R.s1, R.cl⟩
        · simp only [hlen, if_false] at o
          exact o.elim
end
end DL

set_option Elab.async false
set_option linter.all false
set_option maxRecDepth 100000
set_option maxHeartbeats 2000000
/-! DLw: zip of three lists. -/
namespace DL
open PySem PySem.Spec PyProof.Rows L2
/-- three lists as they stand at each turn, the items in new tuples -/
def Itz3 (K : PySem.W.Frag) (a b c : Addr) : It :=
  ⟨fun i H => ∃ (xs ys zs : List V) (x y z : V), SqL K H a xs ∧ SqL K H b ys ∧ SqL K H c zs ∧ xs[i]? = some x ∧ ys[i]? = some y ∧ zs[i]? = some z,
    fun i H v H' => ∃ T x y z, v = .ref T ∧ H T = none ∧ H' = upd H T (.tup [x, y, z]) ∧ (∀ xs, SqL K H a xs → xs[i]? = some x) ∧ (∀ ys, SqL K H b ys → ys[i]? = some y) ∧ ∀ zs, SqL K H c zs → zs[i]? = some z,
    fun i H => ∃ xs ys zs : List V, SqL K H a xs ∧ SqL K H b ys ∧ SqL K H c zs ∧ i ≤ xs.length ∧ i ≤ ys.length ∧ i ≤ zs.length ∧ (i = xs.length ∨ i = ys.length ∨ i = zs.length)⟩
theorem turn_zip3 {P : Program} {w : World} {K : PySem.W.Frag} {elts : List Expr} {kk : Nat} {tpos : Pos} {a b c z TI TO i1 i2 i3 : Addr} (D : ZipSep3 z TI TO i1 i2 i3 [i1, a] [i2, b] [i3, c]) (n1 : a ≠ i1) (n2 : b ≠ i2) (n3 : c ≠ i3) :
    Turn P w K (.Tuple elts kk tpos) (Itz3 K a b c) [z, TI, TO, i1, i2, i3] z (fun i h => IsZip h z TI TO .none ∧ IsTupOf3 h TI (.ref i1) (.ref i2) (.ref i3) ∧ (∃ x y w, IsTupOf3 h TO x y w) ∧ h.IsListIter i1 a i ∧ h.IsListIter i2 b i ∧ h.IsListIter i3 c i) where
  mem := by simp
  obj := fun i h st d hd => by
    obtain ⟨hz, hTI, ⟨x, y, w, hTO⟩, ⟨o1, e1, _, d1⟩, ⟨o2, e2, _, d2⟩, ⟨o3, e3, _, d3⟩⟩ := st
    have e' : d = z ∨ d = TI ∨ d = TO ∨ d = i1 ∨ d = i2 ∨ d = i3 := by simpa using hd
    rcases e' with q | q | q | q | q | q
    · rw [q]; exact ⟨_, hz, fun v q => nomatch q⟩
    · rw [q]; exact ⟨_, hTI, fun v q => nomatch q⟩
    · rw [q]; exact ⟨_, hTO, fun v q => nomatch q⟩
    · rw [q]; exact ⟨o1, e1, fun v q => by rw [d1] at q; cases q⟩
    · rw [q]; exact ⟨o2, e2, fun v q => by rw [d2] at q; cases q⟩
    · rw [q]; exact ⟨o3, e3, fun v q => by rw [d3] at q; cases q⟩
  keep := fun i h h' st k => by
    obtain ⟨hz, hTI, ⟨x, y, w, hTO⟩, h1, h2, h3⟩ := st
    exact ⟨k z (by simp) _ hz, k TI (by simp) _ hTI, ⟨x, y, w, k TO (by simp) _ hTO⟩, h1.at fun o q => k i1 (by simp) o q, h2.at fun o q => k i2 (by simp) o q, h3.at fun o q => k i3 (by simp) o q⟩
  item := by
    intro X hP hw hK hc i pins s σ H E I hf st hg
    subst hP hw hK
    obtain ⟨hz, hTI, ⟨x0, y0, w0, hTO⟩, h1, h2, h3⟩ := st
    obtain ⟨xs, ys, zs, x, y, z', hqx, hqy, hqz, hx, hy, hz'⟩ := hg
    obtain ⟨its, rv, p, _⟩ := I.list hqx
    obtain ⟨its2, rv2, p2, _⟩ := I.list hqy
    obtain ⟨its3, rv3, p3, _⟩ := I.list hqz
    obtain ⟨u, hu, ru⟩ := rv.get hx
    obtain ⟨u2, hu2, ru2⟩ := rv2.get hy
    obtain ⟨u3, hu3, ru3⟩ := rv3.get hz'
    have l1 : i < its.toArray.size := by
      obtain ⟨h, _⟩ := List.getElem?_eq_some_iff.mp hu
      simpa using h
    have l2 : i < its2.toArray.size := by
      obtain ⟨h, _⟩ := List.getElem?_eq_some_iff.mp hu2
      simpa using h
    have l3 : i < its3.toArray.size := by
      obtain ⟨h, _⟩ := List.getElem?_eq_some_iff.mp hu3
      simpa using h
    have hzl : z < s.heap.objs.size := Heap.lt_size hz
    have hh : X.A.in1.handled = none := I.ok.hd hc
    refine wpAny_pyNext_zipD3_item D (Draws.list hh i1 a n1 its.toArray) (Draws.list hh i2 b n2 its2.toArray) (Draws.list hh i3 c n3 its3.toArray) hz hTI hTO ⟨h1, p.isList⟩ ⟨h2, p2.isList⟩ ⟨h3, p3.isList⟩ l1 l2 l3 fun x1 x2 x3 h' tk e1 e2 e3 zz TO' h1' h2' h3' hT hsz hk => ?_
    obtain rfl : u = x1 := Option.some.inj (hu.symm.trans (by simpa using e1))
    obtain rfl : u2 = x2 := Option.some.inj (hu2.symm.trans (by simpa using e2))
    obtain rfl : u3 = x3 := Option.some.inj (hu3.symm.trans (by simpa using e3))
    refine ⟨_, rfl, wpAny_letOwnedTupleGo_zip (s := { s with heap := h', toks := tk }) zz fun h'' z'' sb => ?_⟩
    have hT2 : h''.get? s.heap.objs.size = some { cls := .type "tuple", data := .seq #[u, u2, u3] } := (sb.2 _ (Nat.ne_of_gt hzl)).trans hT
    have new : ObjOk X.prog X.w (upd H s.heap.objs.size (.tup [x, y, z'])) h'' s.heap.objs.size (.tup [x, y, z']) :=
      ⟨by show 3 ≤ sizeLine; decide, [u, u2, u3], .cons ru (.cons ru2 (.cons ru3 .nil)), ⟨_, hT2, rfl, _, rfl⟩⟩
    have I1 : Inv X pins σ (upd H s.heap.objs.size (.tup [x, y, z'])) { s with heap := h'', toks := tk } :=
      I.turnedNew (t' := tk) (ch := [z, TI, TO, i1, i2, i3]) (fun d o hb q => (sb.2 d (fun q' => hb (by simp [q']))).trans (hk d o (fun q' => hb (by simp [q'])) (fun q' => hb (by simp [q'])) (fun q' => hb (by simp [q'])) (fun q' => hb (by simp [q'])) (fun q' => hb (by simp [q'])) q)) hf (Nat.le_refl _) new
    have a1 : i1 ≠ z := fun q => D.zf1 (by simp [q])
    have a2 : i2 ≠ z := fun q => D.zf2 (by simp [q])
    have a3 : i3 ≠ z := fun q => D.zf3 (by simp [q])
    refine ⟨.ref s.heap.objs.size, _, I1, rfl, ⟨_, x, y, z', rfl, I.hok.fresh (Nat.le_refl _), rfl, fun l hl => by rw [I.list_inj hl hqx]; exact hx, fun l hl => by rw [I.list_inj hl hqy]; exact hy, fun l hl => by rw [I.list_inj hl hqz]; exact hz'⟩, ⟨z'', ?_, ⟨u, u2, u3, ?_⟩, ?_, ?_, ?_⟩, fun d hdm => ?_⟩
    · exact (sb.2 _ D.TIz).trans (hk _ _ D.TIz D.TITO D.TIi1 D.TIi2 D.TIi3 hTI)
    · exact (sb.2 _ D.TOz).trans TO'
    · exact h1'.1.at fun o q => (sb.2 _ a1).trans q
    · exact h2'.1.at fun o q => (sb.2 _ a2).trans q
    · exact h3'.1.at fun o q => (sb.2 _ a3).trans q
    · have hlt : d < s.heap.objs.size := by
        have e' : d = z ∨ d = TI ∨ d = TO ∨ d = i1 ∨ d = i2 ∨ d = i3 := by simpa using hdm
        rcases e' with q | q | q | q | q | q
        · rw [q]; exact hzl
        · rw [q]; exact Heap.lt_size hTI
        · rw [q]; exact Heap.lt_size hTO
        · rw [q]; obtain ⟨_, e1, _⟩ := h1; exact Heap.lt_size e1
        · rw [q]; obtain ⟨_, e2, _⟩ := h2; exact Heap.lt_size e2
        · rw [q]; obtain ⟨_, e3, _⟩ := h3; exact Heap.lt_size e3
      rw [upd_ne (Nat.ne_of_lt hlt)]
      exact (hf d hdm).1
  done := by
    intro X hP hw hK hc i pins s σ H E I hf st hg
    subst hP hw hK
    obtain ⟨hz, hTI, ⟨x0, y0, w0, hTO⟩, h1, h2, h3⟩ := st
    obtain ⟨xs, ys, zs, hqx, hqy, hqz, g1, g2, g3, hend⟩ := hg
    obtain ⟨its, rv, p, _⟩ := I.list hqx
    obtain ⟨its2, rv2, p2, _⟩ := I.list hqy
    obtain ⟨its3, rv3, p3, _⟩ := I.list hqz
    have l1 := rv.length
    have l2 := rv2.length
    have l3 := rv3.length
    have hh : X.A.in1.handled = none := I.ok.hd hc
    exact wpAny_pyNext_zipD3_end D (Draws.list hh i1 a n1 its.toArray) (Draws.list hh i2 b n2 its2.toArray) (Draws.list hh i3 c n3 its3.toArray) hz hTI hTO ⟨h1, p.isList⟩ ⟨h2, p2.isList⟩ ⟨h3, p3.isList⟩ (by simp; omega) (by simp; omega) (by simp; omega) (by simp; omega) fun h' tk hk => ⟨rfl, I.turnedL (t' := tk) (ch := [z, TI, TO, i1, i2, i3]) (fun d o hb q =>
      hk d o (fun q' => hb (by simp [q'])) (fun q' => hb (by simp [q'])) (fun q' => hb (by simp [q'])) (fun q' => hb (by simp [q'])) (fun q' => hb (by simp [q'])) q) hf⟩
  self := fun A i s Q E st h => wpAny_pyIter_zip st.1 h
def iZip3A (K : PySem.W.Frag) (ta : TA) : TI := fun σ H R => ta σ H fun vs H1 => ∃ a b c xs ys zs, vs = [.ref a, .ref b, .ref c] ∧ SqL K H1 a xs ∧ SqL K H1 b ys ∧ SqL K H1 c zs ∧ R (Itz3 K a b c) H1
theorem pi_zip3A {X : Cx} {e e2 e3 : Expr} {ta : TA} {p pos tpos : Pos} {elts : List Expr} {kk : Nat} (hg : Gl X "zip") (hm : X.mg "zip" = none) (ha : PA X [e, e2, e3] ta)
    (hs : starEach [e, e2, e3] X.env = (false, eval e X.env) :: starEach [e2, e3] X.env := by rfl) (hpl : (backTo pos (starEach [e2, e3] X.env)).any (·.1) = false := by rfl) :
    PI X (.Tuple elts kk tpos) (.Call (.Name "zip" p) [e, e2, e3] [] pos) (iZip3A X.K ta) := by
  refine ⟨fun pins s σ H R I h => ?_⟩
  refine Call_ (ld_blt I hg hm PyProof.Rows.boot_zip (PyProof.Rows.callWith_type1 (thn (ha.run pos pins s σ H _ I h) fun us s1 ⟨vs, H1, I1, r1, q1⟩ => ?_) hs hpl))
  obtain ⟨a, b, c, xs, ys, zs, ex, hqx, hqy, hqz, q⟩ := q1
  subst ex
  cases r1 with
  | cons r rr =>
  cases rr with
  | cons r' rr =>
  cases rr with
  | cons r'' rr =>
  cases rr
  cases r
  cases r'
  cases r''
  obtain ⟨its, rv, p1, _⟩ := I1.list hqx
  obtain ⟨its2, rv2, p2, _⟩ := I1.list hqy
  obtain ⟨its3, rv3, p3, _⟩ := I1.list hqz
  have la : a < s1.heap.objs.size := p1.lt
  have lb : b < s1.heap.objs.size := p2.lt
  have lc : c < s1.heap.objs.size := p3.lt
  refine zip_begins3 (begins_list a its.toArray) (begins_list b its2.toArray) (begins_list c its3.toArray) p1.isList p2.isList p3.isList fun h' hz hTI hTO h1 h2 h3 hsz hk => wpAny_pyIter_zip hz ?_
  have I2 : Inv X pins σ H1 { s1 with heap := h' } := I1.kept (t' := s1.toks) hk
  refine ⟨s1.heap.objs.size + 5, [s1.heap.objs.size + 5, s1.heap.objs.size + 3, s1.heap.objs.size + 4, s1.heap.objs.size, s1.heap.objs.size + 1, s1.heap.objs.size + 2], _, _, H1, rfl, I2, turn_zip3 (zip_sep3 (fp1 := [a]) (fp2 := [b]) (fp3 := [c]) (fun x hx => by rw [List.mem_singleton.mp hx]; exact la) (fun x hx => by rw [List.mem_singleton.mp hx]; exact lb) (fun x hx => by rw [List.mem_singleton.mp hx]; exact lc)) (Nat.ne_of_lt la) (Nat.ne_of_lt (Nat.lt_succ_of_lt lb)) (Nat.ne_of_lt (Nat.lt_succ_of_lt (Nat.lt_succ_of_lt lc))), ⟨hz, hTI, ⟨_, _, _, hTO⟩, ⟨_, h1, rfl, rfl⟩, ⟨_, h2, rfl, rfl⟩, ⟨_, h3, rfl, rfl⟩⟩, fun d hdm => ?_, q⟩
  have e' : d = s1.heap.objs.size + 5 ∨ d = s1.heap.objs.size + 3 ∨ d = s1.heap.objs.size + 4 ∨ d = s1.heap.objs.size ∨ d = s1.heap.objs.size + 1 ∨ d = s1.heap.objs.size + 2 := by simpa using hdm
  have hle : s1.heap.objs.size ≤ d := by
    rcases e' with z | z | z | z | z | z
    · rw [z]; exact Nat.le_add_right _ _
    · rw [z]; exact Nat.le_add_right _ _
    · rw [z]; exact Nat.le_add_right _ _
    · rw [z]; exact Nat.le_refl _
    · rw [z]; exact Nat.le_add_right _ _
    · rw [z]; exact Nat.le_add_right _ _
  exact I1.fpOk hle (I1.hok.fresh hle)
def Y3 (xs ys zs : Nat → Option V) : Nat → Hp → V → Hp → Prop := fun i H v H' => ∃ T x y z, v = .ref T ∧ H T = none ∧ H' = upd H T (.tup [x, y, z]) ∧ xs i = some x ∧ ys i = some y ∧ zs i = some z
theorem walk_zip3 {K : PySem.W.Frag} {a b c : Addr} {xs ys zs : List V} {n : Nat} (hn : n = min (min xs.length ys.length) zs.length) : Walk (Itz3 K a b c) n (fun H => SqL K H a xs ∧ SqL K H b ys ∧ SqL K H c zs) (Y3 (fun i => xs[i]?) (fun i => ys[i]?) (fun i => zs[i]?)) := by
  subst hn
  refine ⟨fun i _ hi q => ?_, fun _ q => ⟨xs, ys, zs, q.1, q.2.1, q.2.2, by omega⟩, fun i H v H' _ q y => ?_⟩
  · have h1 : i < xs.length := by omega
    have h2 : i < ys.length := by omega
    have h3 : i < zs.length := by omega
    exact ⟨xs, ys, zs, xs[i], ys[i], zs[i], q.1, q.2.1, q.2.2, by simp [h1], by simp [h2], by simp [h3]⟩
  · obtain ⟨T, x, y, z, h1, h2, h3, h4, h5, h6⟩ := y
    exact ⟨T, x, y, z, h1, h2, h3, h4 xs q.1, h5 ys q.2.1, h6 zs q.2.2⟩
section
variable {C : Ctx} {a b c tg : Expr}
theorem walkD_three {own : Own} {F H : Hp} {σ : L2.St} {e : En} {g : Rng} {J : It} {n : Nat} {GG : Hp → Prop} {f1 f2 f3 : Nat → Option V} {ds : List D} (S : SR C own F H σ e g) (w : Walk J n GG (Y3 f1 f2 f3)) (hn : ds.length = n) (hG : ∀ H', KeepN C own H H' → GG H')
    (hd : ∀ (i : Nat) x y z, f1 i = some x → f2 i = some y → f3 i = some z → ∃ d1 d2 d3, ds[i]? = some (.tup [d1, d2, d3]) ∧ Rep C.g H (C.Al own) d1 x ∧ Rep C.g H (C.Al own) d2 y ∧ Rep C.g H (C.Al own) d3 z) : WalkD C own H J ds := by
  refine ⟨GG, _, by rw [hn]; exact w, hG, fun i H' x H'' hi k y => ?_⟩
  obtain ⟨T, u, v, w, rfl, nT, rfl, e1, e2, e3⟩ := y
  obtain ⟨d1, d2, d3, h1, h2, h3, h4⟩ := hd i u v w e1 e2 e3
  have s : Same H' (upd H' T (.tup [u, v, w])) := fun a o z => by rw [upd_ne (ne_of_none z nT)]; exact z
  have up : ∀ {d : D} {v' : V}, Rep C.g H (C.Al own) d v' → Rep C.g (upd H' T (.tup [u, v, w])) (C.AW own H) d v' := fun r => ((rep_AW r).mono (k.keep S) fun a q _ => q).mono (.same s) fun a q _ => q
  exact ⟨s, _, h1, .tup_ (.inl (.inl upd_same)) (.cons (up h2) (.cons (up h3) (.cons (up h4) .nil)))⟩
def dZip3 : List D → Res (List D)
  | [.lst l, .lst m, .lst n] => .ok ((l.zip (m.zip n)).map fun q => .tup [q.1, q.2.1, q.2.2])
  | _ => .stuck
theorem dZip3_ok {l m : List D} (h : dZip3 l = .ok m) : ∃ a b c, l = [.lst a, .lst b, .lst c] ∧ m = (a.zip (b.zip c)).map fun q => .tup [q.1, q.2.1, q.2.2] := by
  unfold dZip3 at h
  split at h
  · exact ⟨_, _, _, rfl, (Res.ok.inj h).symm⟩
  · cases h
theorem dZip3_nx (l : List D) (x : Exc) : dZip3 l ≠ .err x := by
  unfold dZip3
  split <;> exact fun h => nomatch h
def iZip3D (f : MA) : MA := fun e g => (f e g).bind fun p => (dZip3 p.1).bind fun l => .ok (l, p.2)
theorem three_of {g : G} {H : Hp} {A : Addr → Prop} {d e f : D} {vs : List V} (h : RepL g H A [d, e, f] vs) : ∃ v w x, vs = [v, w, x] ∧ Rep g H A d v ∧ Rep g H A e w ∧ Rep g H A f x := by
  obtain ⟨v, vs', rfl, h1, h2⟩ := h.toCons
  obtain ⟨w, x, rfl, h3, h4⟩ := two_of h2
  exact ⟨v, w, x, rfl, h1, h3, h4⟩
theorem zip3_tup {l m n : List D} {xs ys zs : List V} {H : Hp} {A : Addr → Prop} (hx : RepL C.g H A l xs) (hy : RepL C.g H A m ys) (hz : RepL C.g H A n zs) (i : Nat) (u v w : V) (e1 : xs[i]? = some u) (e2 : ys[i]? = some v) (e3 : zs[i]? = some w) : ∃ d1 d2 d3, ((l.zip (m.zip n)).map fun q => D.tup [q.1, q.2.1, q.2.2])[i]? = some (.tup [d1, d2, d3]) ∧ Rep C.g H A d1 u ∧ Rep C.g H A d2 v ∧ Rep C.g H A d3 w := by
  obtain ⟨d1, h1, h2⟩ := hx.getV e1
  obtain ⟨d2, h3, h4⟩ := hy.getV e2
  obtain ⟨d3, h5, h6⟩ := hz.getV e3
  refine ⟨d1, d2, d3, ?_, h2, h4, h6⟩
  rw [List.getElem?_map, (List.getElem?_zip_eq_some (z := (d1, (d2, d3)))).mpr ⟨h1, (List.getElem?_zip_eq_some (z := (d2, d3))).mpr ⟨h3, h5⟩⟩]; rfl
theorem di_zip3 {fs : MA} {x : Expr} (h : ∀ {t : TA}, PA C.X [a, b, c] t → PI C.X tg x (iZip3A C.X.K t)) (ha : DA C [a, b, c] fs) : DI C tg x (iZip3D fs) :=
  pi_imp (h ha) fun σ H R ⟨own, F, e, g, S, o⟩ => ⟨own, F, e, g, S, OutI.bindA o fun l g1 H1 vs x1 S1 r1 o1 => by
    cases hz : dZip3 l with
    | err y => exact (dZip3_nx _ _ hz).elim
    | stuck => simp only [hz, Res.bind] at o1; exact o1.elim
    | ok ds =>
      simp only [hz, Res.bind] at o1
      obtain ⟨l1, m, n, rfl, rfl⟩ := dZip3_ok hz
      obtain ⟨u, v, w, rfl, ru, rv, rw_⟩ := three_of r1
      obtain ⟨a1, xs, rfl, ha0, ha1, ha2⟩ := ru.toLst
      obtain ⟨b1, ys, rfl, hb0, hb1, hb2⟩ := rv.toLst
      obtain ⟨c1, zs, rfl, hc0, hc1, hc2⟩ := rw_.toLst
      refine ⟨a1, b1, c1, xs, ys, zs, rfl, SqL.of ha1, SqL.of hb1, SqL.of hc1, o1 H1 _ (.refl H1) S1 ?_⟩
      exact walkD_three (n := min (min xs.length ys.length) zs.length) S1 (walk_zip3 rfl) (by simp [ha2.length, hb2.length, hc2.length, Nat.min_assoc]) (fun H' k => ⟨SqL.of (k _ _ ha1 ha0.2.1 ha0.2.2), SqL.of (k _ _ hb1 hb0.2.1 hb0.2.2), SqL.of (k _ _ hc1 hc0.2.1 hc0.2.2)⟩) (zip3_tup ha2 hb2 hc2)⟩
end
end DL

set_option Elab.async false
set_option linter.all false
set_option maxRecDepth 100000
set_option maxHeartbeats 2000000
/-! DLu: zip of a list and a tuple. -/
namespace DL
open PySem PySem.Spec PyProof.Rows L2
/-- a list and a tuple as they stand at each turn, the items in new pairs -/
def ItzM (K : PySem.W.Frag) (a b : Addr) : It :=
  ⟨fun i H => ∃ (xs ys : List V) (x y : V), SqL K H a xs ∧ SqT K H b ys ∧ xs[i]? = some x ∧ ys[i]? = some y,
    fun i H v H' => ∃ T x y, v = .ref T ∧ H T = none ∧ H' = upd H T (.tup [x, y]) ∧ (∀ xs, SqL K H a xs → xs[i]? = some x) ∧ ∀ ys, SqT K H b ys → ys[i]? = some y,
    fun i H => ∃ xs ys : List V, SqL K H a xs ∧ SqT K H b ys ∧ i ≤ xs.length ∧ i ≤ ys.length ∧ (i = xs.length ∨ i = ys.length)⟩
theorem turn_zipM {P : Program} {w : World} {K : PySem.W.Frag} {elts : List Expr} {kk : Nat} {tpos : Pos} {a b z TI TO i1 i2 : Addr} (D : ZipSep2 z TI TO i1 i2 [i1, a] [i2, b]) (n1 : a ≠ i1) (n2 : b ≠ i2) :
    Turn P w K (.Tuple elts kk tpos) (ItzM K a b) [z, TI, TO, i1, i2] z (fun i h => IsZip h z TI TO .none ∧ IsTupOf2 h TI (.ref i1) (.ref i2) ∧ (∃ x y, IsTupOf2 h TO x y) ∧ h.IsListIter i1 a i ∧ h.IsTupleIter i2 b i) where
  mem := by simp
  obj := fun i h st d hd => by
    obtain ⟨hz, hTI, ⟨x, y, hTO⟩, ⟨o1, e1, _, d1⟩, ⟨o2, e2, _, d2⟩⟩ := st
    have e' : d = z ∨ d = TI ∨ d = TO ∨ d = i1 ∨ d = i2 := by simpa using hd
    rcases e' with q | q | q | q | q
    · rw [q]; exact ⟨_, hz, fun v q => nomatch q⟩
    · rw [q]; exact ⟨_, hTI, fun v q => nomatch q⟩
    · rw [q]; exact ⟨_, hTO, fun v q => nomatch q⟩
    · rw [q]; exact ⟨o1, e1, fun v q => by rw [d1] at q; cases q⟩
    · rw [q]; exact ⟨o2, e2, fun v q => by rw [d2] at q; cases q⟩
  keep := fun i h h' st k => by
    obtain ⟨hz, hTI, ⟨x, y, hTO⟩, h1, h2⟩ := st
    exact ⟨k z (by simp) _ hz, k TI (by simp) _ hTI, ⟨x, y, k TO (by simp) _ hTO⟩, h1.at fun o q => k i1 (by simp) o q, h2.at fun o q => k i2 (by simp) o q⟩
  item := by
    intro X hP hw hK hc i pins s σ H E I hf st hg
    subst hP hw hK
    obtain ⟨hz, hTI, ⟨x0, y0, hTO⟩, h1, h2⟩ := st
    obtain ⟨xs, ys, x, y, hqx, hqy, hx, hy⟩ := hg
    obtain ⟨its, rv, p, _⟩ := I.list hqx
    obtain ⟨its2, rv2, p2, _⟩ := I.tuple hqy
    obtain ⟨u, hu, ru⟩ := rv.get hx
    obtain ⟨u2, hu2, ru2⟩ := rv2.get hy
    have l1 : i < its.toArray.size := by
      obtain ⟨h, _⟩ := List.getElem?_eq_some_iff.mp hu
      simpa using h
    have l2 : i < its2.toArray.size := by
      obtain ⟨h, _⟩ := List.getElem?_eq_some_iff.mp hu2
      simpa using h
    have hzl : z < s.heap.objs.size := Heap.lt_size hz
    have hh : X.A.in1.handled = none := I.ok.hd hc
    have p2' : s.heap.IsTuple b its2.toArray := p2
    refine wpAny_pyNext_zipD2_item D (Draws.list hh i1 a n1 its.toArray) (Draws.tuple hh i2 b n2 its2.toArray) hz hTI hTO ⟨h1, p.isList⟩ ⟨h2, p2'⟩ l1 l2 fun x1 x2 h' tk e1 e2 zz TO' h1' h2' hT hsz hk => ?_
    obtain rfl : u = x1 := Option.some.inj (hu.symm.trans (by simpa using e1))
    obtain rfl : u2 = x2 := Option.some.inj (hu2.symm.trans (by simpa using e2))
    refine ⟨_, rfl, wpAny_letOwnedTupleGo_zip (s := { s with heap := h', toks := tk }) zz fun h'' z'' sb => ?_⟩
    have hT2 : h''.get? s.heap.objs.size = some { cls := .type "tuple", data := .seq #[u, u2] } := (sb.2 _ (Nat.ne_of_gt hzl)).trans hT
    have new : ObjOk X.prog X.w (upd H s.heap.objs.size (.tup [x, y])) h'' s.heap.objs.size (.tup [x, y]) :=
      ⟨by show 2 ≤ sizeLine; decide, [u, u2], .cons ru (.cons ru2 .nil), ⟨_, hT2, rfl, _, rfl⟩⟩
    have I1 : Inv X pins σ (upd H s.heap.objs.size (.tup [x, y])) { s with heap := h'', toks := tk } :=
      I.turnedNew (t' := tk) (ch := [z, TI, TO, i1, i2]) (fun d o hb q => (sb.2 d (fun q' => hb (by simp [q']))).trans (hk d o (fun q' => hb (by simp [q'])) (fun q' => hb (by simp [q'])) (fun q' => hb (by simp [q'])) (fun q' => hb (by simp [q'])) q)) hf (Nat.le_refl _) new
    have a1 : i1 ≠ z := fun q => D.zf1 (by simp [q])
    have a2 : i2 ≠ z := fun q => D.zf2 (by simp [q])
    refine ⟨.ref s.heap.objs.size, _, I1, rfl, ⟨_, x, y, rfl, I.hok.fresh (Nat.le_refl _), rfl, fun l hl => by rw [I.list_inj hl hqx]; exact hx, fun l hl => by rw [I.tuple_inj hl hqy]; exact hy⟩, ⟨z'', ?_, ⟨u, u2, ?_⟩, ?_, ?_⟩, fun d hdm => ?_⟩
    · exact (sb.2 _ D.TIz).trans (hk _ _ D.TIz D.TITO D.TIi1 D.TIi2 hTI)
    · exact (sb.2 _ D.TOz).trans TO'
    · exact h1'.1.at fun o q => (sb.2 _ a1).trans q
    · exact h2'.1.at fun o q => (sb.2 _ a2).trans q
    · have hlt : d < s.heap.objs.size := by
        have e' : d = z ∨ d = TI ∨ d = TO ∨ d = i1 ∨ d = i2 := by simpa using hdm
        rcases e' with q | q | q | q | q
        · rw [q]; exact hzl
        · rw [q]; exact Heap.lt_size hTI
        · rw [q]; exact Heap.lt_size hTO
        · rw [q]; obtain ⟨_, e1, _⟩ := h1; exact Heap.lt_size e1
        · rw [q]; obtain ⟨_, e2, _⟩ := h2; exact Heap.lt_size e2
      rw [upd_ne (Nat.ne_of_lt hlt)]
      exact (hf d hdm).1
  done := by
    intro X hP hw hK hc i pins s σ H E I hf st hg
    subst hP hw hK
    obtain ⟨hz, hTI, ⟨x0, y0, hTO⟩, h1, h2⟩ := st
    obtain ⟨xs, ys, hqx, hqy, g1, g2, hend⟩ := hg
    obtain ⟨its, rv, p, _⟩ := I.list hqx
    obtain ⟨its2, rv2, p2, _⟩ := I.tuple hqy
    have l1 := rv.length
    have l2 := rv2.length
    have hh : X.A.in1.handled = none := I.ok.hd hc
    have p2' : s.heap.IsTuple b its2.toArray := p2
    exact wpAny_pyNext_zipD2_end D (Draws.list hh i1 a n1 its.toArray) (Draws.tuple hh i2 b n2 its2.toArray) hz hTI hTO ⟨h1, p.isList⟩ ⟨h2, p2'⟩ (by simp; omega) (by simp; omega) (by simp; omega) fun h' tk hk => ⟨rfl, I.turnedL (t' := tk) (ch := [z, TI, TO, i1, i2]) (fun d o hb q =>
      hk d o (fun q' => hb (by simp [q'])) (fun q' => hb (by simp [q'])) (fun q' => hb (by simp [q'])) (fun q' => hb (by simp [q'])) q) hf⟩
  self := fun A i s Q E st h => wpAny_pyIter_zip st.1 h
def iZipMA (K : PySem.W.Frag) (ta : TA) : TI := fun σ H R => ta σ H fun vs H1 => ∃ a b xs ys, vs = [.ref a, .ref b] ∧ SqL K H1 a xs ∧ SqT K H1 b ys ∧ R (ItzM K a b) H1
theorem pi_zipMA {X : Cx} {e e2 : Expr} {ta : TA} {p pos tpos : Pos} {elts : List Expr} {kk : Nat} (hg : Gl X "zip") (hm : X.mg "zip" = none) (ha : PA X [e, e2] ta)
    (hs : starEach [e, e2] X.env = (false, eval e X.env) :: starEach [e2] X.env := by rfl) (hpl : (backTo pos (starEach [e2] X.env)).any (·.1) = false := by rfl) :
    PI X (.Tuple elts kk tpos) (.Call (.Name "zip" p) [e, e2] [] pos) (iZipMA X.K ta) := by
  refine ⟨fun pins s σ H R I h => ?_⟩
  refine Call_ (ld_blt I hg hm PyProof.Rows.boot_zip (PyProof.Rows.callWith_type1 (thn (ha.run pos pins s σ H _ I h) fun us s1 ⟨vs, H1, I1, r1, q1⟩ => ?_) hs hpl))
  obtain ⟨a, b, xs, ys, ex, hqx, hqy, q⟩ := q1
  subst ex
  cases r1 with
  | cons r rr =>
  cases rr with
  | cons r' rr =>
  cases rr
  cases r
  cases r'
  obtain ⟨its, rv, p1, _⟩ := I1.list hqx
  obtain ⟨its2, rv2, p2, _⟩ := I1.tuple hqy
  have p2' : s1.heap.IsTuple b its2.toArray := p2
  have la : a < s1.heap.objs.size := p1.lt
  have lb : b < s1.heap.objs.size := by
    obtain ⟨o2, ho2, _⟩ := id p2
    exact Heap.lt_size ho2
  refine zip_begins2 (begins_list a its.toArray) (begins_tuple b its2.toArray) p1.isList p2' fun h' hz hTI hTO h1 h2 hsz hk => wpAny_pyIter_zip hz ?_
  have I2 : Inv X pins σ H1 { s1 with heap := h' } := I1.kept (t' := s1.toks) hk
  refine ⟨s1.heap.objs.size + 4, [s1.heap.objs.size + 4, s1.heap.objs.size + 2, s1.heap.objs.size + 3, s1.heap.objs.size, s1.heap.objs.size + 1], _, _, H1, rfl, I2, turn_zipM (zip_sep2 (fp1 := [a]) (fp2 := [b]) (fun x hx => by rw [List.mem_singleton.mp hx]; exact la) (fun x hx => by rw [List.mem_singleton.mp hx]; exact lb)) (Nat.ne_of_lt la) (Nat.ne_of_lt (Nat.lt_succ_of_lt lb)), ⟨hz, hTI, ⟨_, _, hTO⟩, ⟨_, h1, rfl, rfl⟩, ⟨_, h2, rfl, rfl⟩⟩, fun d hdm => ?_, q⟩
  have e' : d = s1.heap.objs.size + 4 ∨ d = s1.heap.objs.size + 2 ∨ d = s1.heap.objs.size + 3 ∨ d = s1.heap.objs.size ∨ d = s1.heap.objs.size + 1 := by simpa using hdm
  have hle : s1.heap.objs.size ≤ d := by
    rcases e' with z | z | z | z | z
    · rw [z]; exact Nat.le_add_right _ _
    · rw [z]; exact Nat.le_add_right _ _
    · rw [z]; exact Nat.le_add_right _ _
    · rw [z]; exact Nat.le_refl _
    · rw [z]; exact Nat.le_add_right _ _
  exact I1.fpOk hle (I1.hok.fresh hle)
theorem walk_zipM {K : PySem.W.Frag} {a b : Addr} {xs ys : List V} {n : Nat} (hn : n = min xs.length ys.length) : Walk (ItzM K a b) n (fun H => SqL K H a xs ∧ SqT K H b ys) (YPair (fun i => xs[i]?) (fun i => ys[i]?)) := by
  subst hn
  refine ⟨fun i _ hi q => ?_, fun _ q => ⟨xs, ys, q.1, q.2, by omega⟩, fun i H v H' _ q y => ?_⟩
  · have h1 : i < xs.length := by omega
    have h2 : i < ys.length := by omega
    exact ⟨xs, ys, xs[i], ys[i], q.1, q.2, by simp [h1], by simp [h2]⟩
  · obtain ⟨T, x, z, h1, h2, h3, h4, h5⟩ := y
    exact ⟨T, x, z, h1, h2, h3, h4 xs q.1, h5 ys q.2⟩
section
variable {C : Ctx} {a b tg : Expr}
def dZipM : List D → Res (List D)
  | [.lst l, .tup m] => .ok ((l.zip m).map fun q => .tup [q.1, q.2])
  | _ => .stuck
theorem dZipM_ok {l m : List D} (h : dZipM l = .ok m) : ∃ a b, l = [.lst a, .tup b] ∧ m = (a.zip b).map fun q => .tup [q.1, q.2] := by
  unfold dZipM at h
  split at h
  · exact ⟨_, _, rfl, (Res.ok.inj h).symm⟩
  · cases h
theorem dZipM_nx (l : List D) (x : Exc) : dZipM l ≠ .err x := by
  unfold dZipM
  split <;> exact fun h => nomatch h
def iZipMD (f : MA) : MA := fun e g => (f e g).bind fun p => (dZipM p.1).bind fun l => .ok (l, p.2)
@[simp] theorem dZipM_lt (l m : List D) : dZipM [.lst l, .tup m] = .ok ((l.zip m).map fun q => .tup [q.1, q.2]) := rfl
@[simp] theorem iZipMD_ {e : En} {g : Rng} (f : MA) : iZipMD f e g = (f e g).bind fun p => (dZipM p.1).bind fun l => .ok (l, p.2) := rfl
theorem di_zipM {fs : MA} {x : Expr} (h : ∀ {t : TA}, PA C.X [a, b] t → PI C.X tg x (iZipMA C.X.K t)) (ha : DA C [a, b] fs) : DI C tg x (iZipMD fs) :=
  pi_imp (h ha) fun σ H R ⟨own, F, e, g, S, o⟩ => ⟨own, F, e, g, S, OutI.bindA o fun l g1 H1 vs x1 S1 r1 o1 => by
    cases hz : dZipM l with
    | err y => exact (dZipM_nx _ _ hz).elim
    | stuck => simp only [hz, Res.bind] at o1; exact o1.elim
    | ok ds =>
      simp only [hz, Res.bind] at o1
      obtain ⟨l1, m, rfl, rfl⟩ := dZipM_ok hz
      obtain ⟨v, w, rfl, rv, rw_⟩ := two_of r1
      obtain ⟨a1, xs, rfl, ha0, ha1, ha2⟩ := rv.toLst
      obtain ⟨b1, ys, rfl, hb1, hb2⟩ := rw_.toTup
      refine ⟨a1, b1, xs, ys, rfl, SqL.of ha1, hb1, o1 H1 _ (.refl H1) S1 ?_⟩
      exact walkD_pair (n := min xs.length ys.length) S1 (walk_zipM rfl) (by simp [ha2.length, hb2.length]) (fun H' k => ⟨SqL.of (k _ _ ha1 ha0.2.1 ha0.2.2), (k.keep S1).sqT hb1⟩) (zip_tup ha2 hb2)⟩
end
/-- a tuple and a list as they stand at each turn, the items in new pairs -/
def ItzN (K : PySem.W.Frag) (a b : Addr) : It :=
  ⟨fun i H => ∃ (xs ys : List V) (x y : V), SqT K H a xs ∧ SqL K H b ys ∧ xs[i]? = some x ∧ ys[i]? = some y,
    fun i H v H' => ∃ T x y, v = .ref T ∧ H T = none ∧ H' = upd H T (.tup [x, y]) ∧ (∀ xs, SqT K H a xs → xs[i]? = some x) ∧ ∀ ys, SqL K H b ys → ys[i]? = some y,
    fun i H => ∃ xs ys : List V, SqT K H a xs ∧ SqL K H b ys ∧ i ≤ xs.length ∧ i ≤ ys.length ∧ (i = xs.length ∨ i = ys.length)⟩
theorem turn_zipN {P : Program} {w : World} {K : PySem.W.Frag} {elts : List Expr} {kk : Nat} {tpos : Pos} {a b z TI TO i1 i2 : Addr} (D : ZipSep2 z TI TO i1 i2 [i1, a] [i2, b]) (n1 : a ≠ i1) (n2 : b ≠ i2) :
    Turn P w K (.Tuple elts kk tpos) (ItzN K a b) [z, TI, TO, i1, i2] z (fun i h => IsZip h z TI TO .none ∧ IsTupOf2 h TI (.ref i1) (.ref i2) ∧ (∃ x y, IsTupOf2 h TO x y) ∧ h.IsTupleIter i1 a i ∧ h.IsListIter i2 b i) where
  mem := by simp
  obj := fun i h st d hd => by
    obtain ⟨hz, hTI, ⟨x, y, hTO⟩, ⟨o1, e1, _, d1⟩, ⟨o2, e2, _, d2⟩⟩ := st
    have e' : d = z ∨ d = TI ∨ d = TO ∨ d = i1 ∨ d = i2 := by simpa using hd
    rcases e' with q | q | q | q | q
    · rw [q]; exact ⟨_, hz, fun v q => nomatch q⟩
    · rw [q]; exact ⟨_, hTI, fun v q => nomatch q⟩
    · rw [q]; exact ⟨_, hTO, fun v q => nomatch q⟩
    · rw [q]; exact ⟨o1, e1, fun v q => by rw [d1] at q; cases q⟩
    · rw [q]; exact ⟨o2, e2, fun v q => by rw [d2] at q; cases q⟩
  keep := fun i h h' st k => by
    obtain ⟨hz, hTI, ⟨x, y, hTO⟩, h1, h2⟩ := st
    exact ⟨k z (by simp) _ hz, k TI (by simp) _ hTI, ⟨x, y, k TO (by simp) _ hTO⟩, h1.at fun o q => k i1 (by simp) o q, h2.at fun o q => k i2 (by simp) o q⟩
  item := by
    intro X hP hw hK hc i pins s σ H E I hf st hg
    subst hP hw hK
    obtain ⟨hz, hTI, ⟨x0, y0, hTO⟩, h1, h2⟩ := st
    obtain ⟨xs, ys, x, y, hqx, hqy, hx, hy⟩ := hg
    obtain ⟨its, rv, p, _⟩ := I.tuple hqx
    obtain ⟨its2, rv2, p2, _⟩ := I.list hqy
    obtain ⟨u, hu, ru⟩ := rv.get hx
    obtain ⟨u2, hu2, ru2⟩ := rv2.get hy
    have l1 : i < its.toArray.size := by
      obtain ⟨h, _⟩ := List.getElem?_eq_some_iff.mp hu
      simpa using h
    have l2 : i < its2.toArray.size := by
      obtain ⟨h, _⟩ := List.getElem?_eq_some_iff.mp hu2
      simpa using h
    have hzl : z < s.heap.objs.size := Heap.lt_size hz
    have hh : X.A.in1.handled = none := I.ok.hd hc
    have p' : s.heap.IsTuple a its.toArray := p
    refine wpAny_pyNext_zipD2_item D (Draws.tuple hh i1 a n1 its.toArray) (Draws.list hh i2 b n2 its2.toArray) hz hTI hTO ⟨h1, p'⟩ ⟨h2, p2.isList⟩ l1 l2 fun x1 x2 h' tk e1 e2 zz TO' h1' h2' hT hsz hk => ?_
    obtain rfl : u = x1 := Option.some.inj (hu.symm.trans (by simpa using e1))
    obtain rfl : u2 = x2 := Option.some.inj (hu2.symm.trans (by simpa using e2))
    refine ⟨_, rfl, wpAny_letOwnedTupleGo_zip (s := { s with heap := h', toks := tk }) zz fun h'' z'' sb => ?_⟩
    have hT2 : h''.get? s.heap.objs.size = some { cls := .type "tuple", data := .seq #[u, u2] } := (sb.2 _ (Nat.ne_of_gt hzl)).trans hT
    have new : ObjOk X.prog X.w (upd H s.heap.objs.size (.tup [x, y])) h'' s.heap.objs.size (.tup [x, y]) :=
      ⟨by show 2 ≤ sizeLine; decide, [u, u2], .cons ru (.cons ru2 .nil), ⟨_, hT2, rfl, _, rfl⟩⟩
    have I1 : Inv X pins σ (upd H s.heap.objs.size (.tup [x, y])) { s with heap := h'', toks := tk } :=
      I.turnedNew (t' := tk) (ch := [z, TI, TO, i1, i2]) (fun d o hb q => (sb.2 d (fun q' => hb (by simp [q']))).trans (hk d o (fun q' => hb (by simp [q'])) (fun q' => hb (by simp [q'])) (fun q' => hb (by simp [q'])) (fun q' => hb (by simp [q'])) q)) hf (Nat.le_refl _) new
    have a1 : i1 ≠ z := fun q => D.zf1 (by simp [q])
    have a2 : i2 ≠ z := fun q => D.zf2 (by simp [q])
    refine ⟨.ref s.heap.objs.size, _, I1, rfl, ⟨_, x, y, rfl, I.hok.fresh (Nat.le_refl _), rfl, fun l hl => by rw [I.tuple_inj hl hqx]; exact hx, fun l hl => by rw [I.list_inj hl hqy]; exact hy⟩, ⟨z'', ?_, ⟨u, u2, ?_⟩, ?_, ?_⟩, fun d hdm => ?_⟩
    · exact (sb.2 _ D.TIz).trans (hk _ _ D.TIz D.TITO D.TIi1 D.TIi2 hTI)
    · exact (sb.2 _ D.TOz).trans TO'
    · exact h1'.1.at fun o q => (sb.2 _ a1).trans q
    · exact h2'.1.at fun o q => (sb.2 _ a2).trans q
    · have hlt : d < s.heap.objs.size := by
        have e' : d = z ∨ d = TI ∨ d = TO ∨ d = i1 ∨ d = i2 := by simpa using hdm
        rcases e' with q | q | q | q | q
        · rw [q]; exact hzl
        · rw [q]; exact Heap.lt_size hTI
        · rw [q]; exact Heap.lt_size hTO
        · rw [q]; obtain ⟨_, e1, _⟩ := h1; exact Heap.lt_size e1
        · rw [q]; obtain ⟨_, e2, _⟩ := h2; exact Heap.lt_size e2
      rw [upd_ne (Nat.ne_of_lt hlt)]
      exact (hf d hdm).1
  done := by
    intro X hP hw hK hc i pins s σ H E I hf st hg
    subst hP hw hK
    obtain ⟨hz, hTI, ⟨x0, y0, hTO⟩, h1, h2⟩ := st
    obtain ⟨xs, ys, hqx, hqy, g1, g2, hend⟩ := hg
    obtain ⟨its, rv, p, _⟩ := I.tuple hqx
    obtain ⟨its2, rv2, p2, _⟩ := I.list hqy
    have l1 := rv.length
    have l2 := rv2.length
    have hh : X.A.in1.handled = none := I.ok.hd hc
    have p' : s.heap.IsTuple a its.toArray := p
    exact wpAny_pyNext_zipD2_end D (Draws.tuple hh i1 a n1 its.toArray) (Draws.list hh i2 b n2 its2.toArray) hz hTI hTO ⟨h1, p'⟩ ⟨h2, p2.isList⟩ (by simp; omega) (by simp; omega) (by simp; omega) fun h' tk hk => ⟨rfl, I.turnedL (t' := tk) (ch := [z, TI, TO, i1, i2]) (fun d o hb q =>
      hk d o (fun q' => hb (by simp [q'])) (fun q' => hb (by simp [q'])) (fun q' => hb (by simp [q'])) (fun q' => hb (by simp [q'])) q) hf⟩
  self := fun A i s Q E st h => wpAny_pyIter_zip st.1 h
def iZipNA (K : PySem.W.Frag) (ta : TA) : TI := fun σ H R => ta σ H fun vs H1 => ∃ a b xs ys, vs = [.ref a, .ref b] ∧ SqT K H1 a xs ∧ SqL K H1 b ys ∧ R (ItzN K a b) H1
theorem pi_zipNA {X : Cx} {e e2 : Expr} {ta : TA} {p pos tpos : Pos} {elts : List Expr} {kk : Nat} (hg : Gl X "zip") (hm : X.mg "zip" = none) (ha : PA X [e, e2] ta)
    (hs : starEach [e, e2] X.env = (false, eval e X.env) :: starEach [e2] X.env := by rfl) (hpl : (backTo pos (starEach [e2] X.env)).any (·.1) = false := by rfl) :
    PI X (.Tuple elts kk tpos) (.Call (.Name "zip" p) [e, e2] [] pos) (iZipNA X.K ta) := by
  refine ⟨fun pins s σ H R I h => ?_⟩
  refine Call_ (ld_blt I hg hm PyProof.Rows.boot_zip (PyProof.Rows.callWith_type1 (thn (ha.run pos pins s σ H _ I h) fun us s1 ⟨vs, H1, I1, r1, q1⟩ => ?_) hs hpl))
  obtain ⟨a, b, xs, ys, ex, hqx, hqy, q⟩ := q1
  subst ex
  cases r1 with
  | cons r rr =>
  cases rr with
  | cons r' rr =>
  cases rr
  cases r
  cases r'
  obtain ⟨its, rv, p1, _⟩ := I1.tuple hqx
  obtain ⟨its2, rv2, p2, _⟩ := I1.list hqy
  have p1' : s1.heap.IsTuple a its.toArray := p1
  have lb : b < s1.heap.objs.size := p2.lt
  have la : a < s1.heap.objs.size := by
    obtain ⟨o2, ho2, _⟩ := id p1
    exact Heap.lt_size ho2
  refine zip_begins2 (begins_tuple a its.toArray) (begins_list b its2.toArray) p1' p2.isList fun h' hz hTI hTO h1 h2 hsz hk => wpAny_pyIter_zip hz ?_
  have I2 : Inv X pins σ H1 { s1 with heap := h' } := I1.kept (t' := s1.toks) hk
  refine ⟨s1.heap.objs.size + 4, [s1.heap.objs.size + 4, s1.heap.objs.size + 2, s1.heap.objs.size + 3, s1.heap.objs.size, s1.heap.objs.size + 1], _, _, H1, rfl, I2, turn_zipN (zip_sep2 (fp1 := [a]) (fp2 := [b]) (fun x hx => by rw [List.mem_singleton.mp hx]; exact la) (fun x hx => by rw [List.mem_singleton.mp hx]; exact lb)) (Nat.ne_of_lt la) (Nat.ne_of_lt (Nat.lt_succ_of_lt lb)), ⟨hz, hTI, ⟨_, _, hTO⟩, ⟨_, h1, rfl, rfl⟩, ⟨_, h2, rfl, rfl⟩⟩, fun d hdm => ?_, q⟩
  have e' : d = s1.heap.objs.size + 4 ∨ d = s1.heap.objs.size + 2 ∨ d = s1.heap.objs.size + 3 ∨ d = s1.heap.objs.size ∨ d = s1.heap.objs.size + 1 := by simpa using hdm
  have hle : s1.heap.objs.size ≤ d := by
    rcases e' with z | z | z | z | z
    · rw [z]; exact Nat.le_add_right _ _
    · rw [z]; exact Nat.le_add_right _ _
    · rw [z]; exact Nat.le_add_right _ _
    · rw [z]; exact Nat.le_refl _
    · rw [z]; exact Nat.le_add_right _ _
  exact I1.fpOk hle (I1.hok.fresh hle)
theorem walk_zipN {K : PySem.W.Frag} {a b : Addr} {xs ys : List V} {n : Nat} (hn : n = min xs.length ys.length) : Walk (ItzN K a b) n (fun H => SqT K H a xs ∧ SqL K H b ys) (YPair (fun i => xs[i]?) (fun i => ys[i]?)) := by
  subst hn
  refine ⟨fun i _ hi q => ?_, fun _ q => ⟨xs, ys, q.1, q.2, by omega⟩, fun i H v H' _ q y => ?_⟩
  · have h1 : i < xs.length := by omega
    have h2 : i < ys.length := by omega
    exact ⟨xs, ys, xs[i], ys[i], q.1, q.2, by simp [h1], by simp [h2]⟩
  · obtain ⟨T, x, z, h1, h2, h3, h4, h5⟩ := y
    exact ⟨T, x, z, h1, h2, h3, h4 xs q.1, h5 ys q.2⟩
section
variable {C : Ctx} {a b tg : Expr}
def dZipN : List D → Res (List D)
  | [.tup l, .lst m] => .ok ((l.zip m).map fun q => .tup [q.1, q.2])
  | _ => .stuck
theorem dZipN_ok {l m : List D} (h : dZipN l = .ok m) : ∃ a b, l = [.tup a, .lst b] ∧ m = (a.zip b).map fun q => .tup [q.1, q.2] := by
  unfold dZipN at h
  split at h
  · exact ⟨_, _, rfl, (Res.ok.inj h).symm⟩
  · cases h
theorem dZipN_nx (l : List D) (x : Exc) : dZipN l ≠ .err x := by
  unfold dZipN
  split <;> exact fun h => nomatch h
def iZipND (f : MA) : MA := fun e g => (f e g).bind fun p => (dZipN p.1).bind fun l => .ok (l, p.2)
@[simp] theorem dZipN_tl (l m : List D) : dZipN [.tup l, .lst m] = .ok ((l.zip m).map fun q => .tup [q.1, q.2]) := rfl
@[simp] theorem iZipND_ {e : En} {g : Rng} (f : MA) : iZipND f e g = (f e g).bind fun p => (dZipN p.1).bind fun l => .ok (l, p.2) := rfl
theorem di_zipN {fs : MA} {x : Expr} (h : ∀ {t : TA}, PA C.X [a, b] t → PI C.X tg x (iZipNA C.X.K t)) (ha : DA C [a, b] fs) : DI C tg x (iZipND fs) :=
  pi_imp (h ha) fun σ H R ⟨own, F, e, g, S, o⟩ => ⟨own, F, e, g, S, OutI.bindA o fun l g1 H1 vs x1 S1 r1 o1 => by
    cases hz : dZipN l with
    | err y => exact (dZipN_nx _ _ hz).elim
    | stuck => simp only [hz, Res.bind] at o1; exact o1.elim
    | ok ds =>
      simp only [hz, Res.bind] at o1
      obtain ⟨l1, m, rfl, rfl⟩ := dZipN_ok hz
      obtain ⟨v, w, rfl, rv, rw_⟩ := two_of r1
      obtain ⟨a1, xs, rfl, ha1, ha2⟩ := rv.toTup
      obtain ⟨b1, ys, rfl, hb0, hb1, hb2⟩ := rw_.toLst
      refine ⟨a1, b1, xs, ys, rfl, ha1, SqL.of hb1, o1 H1 _ (.refl H1) S1 ?_⟩
      exact walkD_pair (n := min xs.length ys.length) S1 (walk_zipN rfl) (by simp [ha2.length, hb2.length]) (fun H' k => ⟨(k.keep S1).sqT ha1, SqL.of (k _ _ hb1 hb0.2.1 hb0.2.2)⟩) (zip_tup ha2 hb2)⟩
end
end DL

set_option Elab.async false
set_option linter.all false
set_option maxRecDepth 100000
set_option maxHeartbeats 2000000
/-! DLx: own exceptions over any of four built-in ones: made, raised. -/
namespace DL
open PySem PySem.Spec PySem.W PyProof.Rows L2 PySem.Builtin.ObjectAttr
/-- the built-in class under an own exception class -/
theorem Bs.store : ∀ b : Bs, ∃ B, StoreFacts B b.tail "object.__setattr__" "object"
  | .ve => ⟨_, PySem.F.store_ValueError⟩
  | .le => ⟨_, PySem.F.store_LookupError⟩
  | .ze => ⟨_, PySem.F.store_ZeroDivisionError⟩
  | .ie => ⟨_, PySem.F.store_IndexError⟩
theorem Bs.base : ∀ b : Bs, ∃ B i, ExcBaseFacts B b.new i b.tail
  | .ve => ⟨_, _, PySem.F.excBase_ValueError⟩
  | .le => ⟨_, _, PySem.F.excBase_LookupError⟩
  | .ze => ⟨_, _, PySem.F.excBase_ZeroDivisionError⟩
  | .ie => ⟨_, _, PySem.F.excBase_IndexError⟩
/-- what the written part says of such a class -/
structure XcC (K : PySem.W.Frag) (C : Addr) (b : Bs) : Prop where
  q : excInitIn K C b.tail b.new = true
  ov : excOver K C b.tail = true
  hd : hasDictIn K C = true
  sa : findIn K (.ref C) "__setattr__" = some (some (.builtin "object.__setattr__"))
  ex : subIn K (.ref C) (.type "BaseException") = some true
  ty : typeIn K (.ref C) = some (.type "type")
  kp : keepIn K (.ref C) = true
section
variable {X : Cx} {pins : List (Addr × Obj)} {σ : L2.St} {H : Hp} {s : Shared} {a C dx : Addr} {b : Bs} {f : Str} {y : V} {u : Value} {fs : List (Str × V)} {Q : Unit → Shared → Prop} {E : Value → Shared → Prop} {A : Around}
theorem xst_new (T : XcC X.K C b) (I : L2.Inv X pins σ H s) (e : H a = some (exo a C none)) (hno : takerIn X.K C f = some none) (ry : RelV y u)
    (k : ∀ dx s', H dx = none → dx ≠ a → L2.Inv X pins σ (upd (upd H dx (exd dx [(f, y)])) a (exo a C (some dx))) s' → Q () s') : wpAny (model X.prog X.w) A (setAttr (.ref a) f u) Q E s := by
  obtain ⟨t1, ho⟩ := exo_at I.hok e
  obtain ⟨B, SF⟩ := b.store
  have KX := I.kIn
  obtain ⟨hp, g, d, tk, os⟩ := s
  have old : a < hp.objs.size := Heap.lt_size ho
  refine PySem.W.set_plain KX (ox := excObj C t1 none .none) (od := none) ⟨ho, rfl, rfl, trivial⟩ T.sa ?_
  refine osa_openX (od := none) SF KX ⟨ho, rfl, rfl, trivial⟩ T.ov hno fun bb => ?_
  obtain ⟨cd, hc, hd'⟩ := any_some T.hd
  refine wpAny_bind (wpAny_pure (wpAny_bind (instanceDict_exc ho (looks_clsIn KX hc) hd' ?_)))
  show wpAny _ _ (storeInDict hp.objs.size (.str f tk) f u) _ _ _
  have ad : a ≠ hp.objs.size := Nat.ne_of_lt old
  refine HandSPX.store_in_new ⟨_, #[], _, (Heap.get?_update_ne _ _ _ _ ad.symm).trans (Heap.get?_push_at rfl rfl), rfl, fun e he => absurd he (by simp), fun _ => rfl⟩ fun h2 tk2 hn sb => ?_
  have ho1 : (hp.push (dictOf [] 0)).get? a = some (excObj C t1 none .none) := Heap.get?_push_of_some _ ho
  have at2 : h2.get? a = some (excObj C t1 (some hp.objs.size) .none) := (sb.2 a ad).trans (Heap.get?_update_self _ ho1 rfl)
  have kp : ∀ b o, b ≠ a → hp.get? b = some o → h2.get? b = some o := fun b o hb e => (sb.2 b (Nat.ne_of_lt (Heap.lt_size e))).trans ((Heap.get?_update_ne _ _ _ _ hb).trans (Heap.get?_push_of_some _ e))
  -- by way of the heap in which a has no dict
  have at1 : (h2.update a fun _ => excObj C t1 none .none).get? a = some (excObj C t1 none .none) := Heap.get?_update_self _ at2 rfl
  have kp1 : ∀ b o, hp.get? b = some o → (h2.update a fun _ => excObj C t1 none .none).get? b = some o := fun b o e => by
    by_cases hb : b = a
    · rw [hb] at e ⊢
      rw [at1, ← ho, e]
    · exact (Heap.get?_update_ne _ _ _ _ hb).trans (kp b o hb e)
  have nd : H hp.objs.size = none := I.hok.fresh (Nat.le_refl _)
  have hn1 : (h2.update a fun _ => excObj C t1 none .none).Ns1 hp.objs.size (fun z => if z = f then some u else none) := hn.at fun o q => (Heap.get?_update_ne _ _ _ _ ad.symm).trans q
  have I1 := I.laid (t' := tk2) (a := hp.objs.size) (o := exd hp.objs.size [(f, y)]) kp1 (Nat.le_refl _) (exd_ok hn1 (relO_put (fs := []) ry fun _ => trivial))
  have e1 : upd H hp.objs.size (exd hp.objs.size [(f, y)]) a = some (exo a C none) := by rw [upd_ne ad]; exact e
  have I2 := I1.write (t' := tk2) (x := a) (e := a) (o := exo a C (some hp.objs.size)) (by rw [e1]; exact trivial) (.inl rfl) (fun b o hb q => (Heap.get?_update_ne _ _ _ _ hb).symm.trans q) ⟨_, at2⟩ (exo_ok at2)
  exact k _ _ nd ad.symm I2
theorem xst_old (T : XcC X.K C b) (I : L2.Inv X pins σ H s) (e : H a = some (exo a C (some dx))) (ed : H dx = some (exd dx fs)) (hl : fs.length ≤ 900) (hno : takerIn X.K C f = some none) (ry : RelV y u)
    (k : ∀ s', L2.Inv X pins σ (upd H dx (exd dx ((f, y) :: fs))) s' → Q () s') : wpAny (model X.prog X.w) A (setAttr (.ref a) f u) Q E s := by
  obtain ⟨t1, ho⟩ := exo_at I.hok e
  obtain ⟨mA, hns, rel⟩ := exd_at I.hok ed
  obtain ⟨B, SF⟩ := b.store
  have KX := I.kIn
  have within := within_of rel
  obtain ⟨hp, g, d, tk, os⟩ := s
  obtain ⟨oD, _, _, hoD, _, _⟩ := hns.count within
  refine PySem.W.set_plain KX (ox := excObj C t1 (some dx) .none) (od := some oD) ⟨ho, rfl, rfl, hoD⟩ T.sa ?_
  refine osa_openX (od := some oD) SF KX ⟨ho, rfl, rfl, hoD⟩ T.ov hno fun bb => ?_
  show wpAny _ _ (storeInOwnDict (.ref a) (.ref C) (.str f tk) f u bb) _ _ _
  obtain ⟨cd, hc, hd'⟩ := any_some T.hd
  have hcd : Looks (model X.prog X.w) hp (classData C) cd := looks_clsIn KX hc
  obtain ⟨c1, c2, c3, c4, c5, c6, c7, c8, c9, c10, c11⟩ := cd
  dsimp only at hd'
  subst hd'
  unfold storeInOwnDict ownDictForStores
  repeat (first | with_reducible refine OEX.store_in_old hns within (by rw [List.length_map]; omega) ?_ | with_reducible refine wpAny_loadPart_at ho ?_ | with_reducible refine hcd.at ?_ | wp_step)
  intro h2 tk2 hn sb
  have kp : ∀ b o, b ≠ dx → hp.get? b = some o → h2.get? b = some o := fun b o hb q => (sb.2 b hb).trans q
  have there : ∃ o, h2.get? dx = some o := by
    obtain ⟨o, _, _, q, _⟩ := hn
    exact ⟨o, q⟩
  exact k _ (I.write (t' := tk2) (x := dx) (e := dx) (o := exd dx ((f, y) :: fs)) (by rw [ed]; exact trivial) (.inl rfl) kp there (exd_ok hn (relO_put ry rel)))
end
/-- self.f = e, self an exception that is being made -/
def tXst (K : PySem.W.Frag) (f : Str) (to te : TE) : TS := fun D σ H => te σ H fun y H1 => to σ H1 fun x H2 => ∃ (a C : Addr) (b : Bs), x = .ref a ∧ XcC K C b ∧ takerIn K C f = some none ∧
  ((H2 a = some (exo a C none) ∧ ∀ dx, H2 dx = none → dx ≠ a → D.nx σ (upd (upd H2 dx (exd dx [(f, y)])) a (exo a C (some dx)))) ∨
    ∃ (dx : Addr) (fs : List (Str × V)), H2 a = some (exo a C (some dx)) ∧ H2 dx = some (exd dx fs) ∧ fs.length ≤ 900 ∧ D.nx σ (upd H2 dx (exd dx ((f, y) :: fs))))
theorem ps_xst {X : Cx} {o e : Expr} {to te : TE} {f : Str} {p' pos : Pos} (ho : PE X o to) (he : PE X e te) (hs : swapsWith e (some (.Attribute o f p')) pos.line X.env = pure false := by rfl) : PS X (.Assign [.Attribute o f p'] e pos) (tXst X.K f to te) := by
  refine ⟨fun pins s σ H D I h => plainObj_wpAny_Assign_Attribute (thn (he.run pins s σ H _ I h) fun v s1 ⟨y, H1, I1, r1, q1⟩ => thn (ho.run pins s1 σ H1 _ I1 q1) fun u s2 ⟨x, H2, I2, r2, q2⟩ => ?_) hs⟩
  obtain ⟨a, C, b, rfl, T, hno, q⟩ := q2
  obtain rfl : u = Value.ref a := r2
  rcases q with ⟨ea, q⟩ | ⟨dx, fs, ea, ed, hl, q⟩
  · exact xst_new T I2 ea hno r1 fun dx s' n ne J => ⟨σ, _, J, q dx n ne⟩
  · exact xst_old T I2 ea ed hl hno r1 fun s' J => ⟨σ, _, J, q⟩
/-! ### what __init__ of such a class promises: the tag, then the field if there is one -/
structure XcI (K : PySem.W.Frag) (C : Addr) (b : Bs) (fI : Addr) : Prop extends XcC K C b where
  ini : findIn K (.ref C) "__init__" = some (some (.ref fI))
  fn : typeIn K (.ref fI) = some (.type "function")
  tag : takerIn K C "tag" = some none
  xf : L2.XfC K C
  ft : findIn K (.ref C) "tag" = some none
def spI0 (C : Addr) (tag : Str) : Sp := fun vs H Q _ => ∃ a, vs = [.ref a] ∧ H a = some (exo a C none) ∧ ∀ dx, H dx = none → dx ≠ a → Q .non (upd (upd H dx (exd dx [("tag", .str tag)])) a (exo a C (some dx)))
def spI1 (C : Addr) (tag f : Str) : Sp := fun vs H Q _ => ∃ a v, vs = [.ref a, v] ∧ H a = some (exo a C none) ∧ ∀ dx, H dx = none → dx ≠ a → Q .non (upd (upd (upd H dx (exd dx [("tag", .str tag)])) a (exo a C (some dx))) dx (exd dx [(f, v), ("tag", .str tag)]))
section
variable {P : Program} {w : World} {K : PySem.W.Frag} {mg : Str → Option Value} {base : Heap} {C fI : Addr} {b : Bs} {qual tag f x : Str} {st : Stmt} {fd : FuncData}
theorem xini0 (T : XcI K C b fI) (F : FunD K x qual (defArgs st) (defBody st) (defScope st) [] [] fI fd) (S : FnScope ["self"] ["self"] (defScope st))
    (body : ∀ (cdv : Value) (A : Around) (outer : List PySem.Env) (s : Shared) (H : Hp) (E : XK), PSs (cxOf (L2N.CX P w) P w K mg base ["self"] qual (defScope st) fI cdv A outer s H E) (defBody st) (tXst K "tag" (tVar 0) (tC (.str tag)))) :
    FnOk P w K mg base (L2N.CX P w) 1 fI fd ["self"] (spI0 C tag) := by
  refine F.ok S (fun vs H Q E ⟨a, h, _⟩ => by rw [h]; rfl) fun cdv A outer s H vs Q E hr ⟨a, hv, ha, q⟩ => ⟨_, body cdv A outer s H E, ?_⟩
  subst hv
  exact ⟨.ref a, rfl, a, C, b, rfl, T.toXcC, T.tag, .inl ⟨ha, fun dx n ne => q dx n ne⟩⟩
theorem xini1 (T : XcI K C b fI) (hf : takerIn K C f = some none) (F : FunD K x qual (defArgs st) (defBody st) (defScope st) [] [] fI fd) (S : FnScope ["self", f] ["self", f] (defScope st))
    (body : ∀ (cdv : Value) (A : Around) (outer : List PySem.Env) (s : Shared) (H : Hp) (E : XK), PSs (cxOf (L2N.CX P w) P w K mg base ["self", f] qual (defScope st) fI cdv A outer s H E) (defBody st) (tSeq (tXst K "tag" (tVar 0) (tC (.str tag))) (tXst K f (tVar 0) (tVar 1)))) :
    FnOk P w K mg base (L2N.CX P w) 1 fI fd ["self", f] (spI1 C tag f) := by
  refine F.ok S (fun vs H Q E ⟨a, v, h, _⟩ => by rw [h]; rfl) fun cdv A outer s H vs Q E hr ⟨a, v, hv, ha, q⟩ => ⟨_, body cdv A outer s H E, ?_⟩
  subst hv
  refine ⟨.ref a, rfl, a, C, b, rfl, T.toXcC, T.tag, .inl ⟨ha, fun dx n ne => ?_⟩⟩
  refine ⟨v, rfl, .ref a, rfl, a, C, b, rfl, T.toXcC, hf, .inr ⟨dx, [("tag", .str tag)], upd_same, ?_, by simp, q dx n ne⟩⟩
  rw [upd_ne ne, upd_same]
end
/-! ### the exception is made -/
section
variable {X : Cx} {C fI : Addr} {b : Bs} {fd : FuncData} {ps : List Str} {sp : Sp} {x tag f : Str} {p pos : Pos}
/-- C(us): behind it the exception's dict alone is left -/
theorem run_exc {pins : List (Addr × Obj)} {σ : L2.St} {H : Hp} {s : Shared} {Q : XK} {us : List Value} {vs : List V} (T : XcI X.K C b fI) (F : FnOk X.prog X.w X.K X.mg X.base (L2N.CX X.prog X.w) 1 fI fd ps sp) (hr : Room 2 X.A) (hb : L2.Binds X.K fd ps [])
    (I : L2.Inv X pins σ H s) (r : Vals vs us) (few : us.length ≤ 1000)
    (h : ∀ a, H a = none → sp (.ref a :: vs) (upd H a (exo a C none)) (fun v H2 => v = .non ∧ ∃ (d : Addr) (fs : List (Str × V)), H2 a = some (exo a C (some d)) ∧ H2 d = some (exd d fs) ∧ H d = none ∧ Q (.ref C) (some d) (upd (del H2 a) d (.xd fs))) E0) :
    wpAny (model X.prog X.w) X.A (call (.ref C) us) (L2N.MkP X pins σ Q) X.xe s := by
  obtain ⟨hp, g, dr, tk, os⟩ := s
  obtain ⟨B, i, FB⟩ := b.base
  obtain ⟨nm, N, qn, bs, bm, hdct, sn, sub, ab, col, dd, k0, k1, k2, k3, k5, hC, hT⟩ := excInit_of I.kIn T.q
  have up : hp.objs.size ≤ hp.objs.size + 1 := Nat.le_succ _
  have free : H (hp.objs.size + 1) = none := I.hok.fresh up
  have hq := h _ free
  have kk : ∀ c o, hp.get? c = some o → ((hp.push (kdv_tup us)).push (HandSPX.excO C hp.objs.size)).get? c = some o := fun c o e => Heap.get?_push_of_some _ (Heap.get?_push_of_some _ e)
  have new : ((hp.push (kdv_tup us)).push (HandSPX.excO C hp.objs.size)).get? (hp.objs.size + 1) = some (HandSPX.excO C hp.objs.size) := by heap_get
  have I2 := I.laid (t' := tk) (a := hp.objs.size + 1) (o := exo (hp.objs.size + 1) C none) (h' := (hp.push (kdv_tup us)).push (HandSPX.excO C hp.objs.size)) kk up (exo_ok new)
  have r2 : Vals (V.ref (hp.objs.size + 1) :: vs) (Value.ref (hp.objs.size + 1) :: us) := .cons rfl r
  have len : (Value.ref (hp.objs.size + 1) :: us).length = ps.length := r2.length.symm.trans (F.len _ _ _ _ hq)
  have bind := hb _ (Value.ref (hp.objs.size + 1) :: us) I2.kIn (by rw [List.append_nil]; exact len)
  rw [List.append_nil] at bind
  refine wpAny_call (HandSPX.call_own FB hT hC (looks_findIn I.kIn T.ini) (fun self => bind_fn I.kIn self T.fn) (by rw [sizeLine_eq]; omega)
    (codeAny_mono (F.run _ X.stack _ _ ⟨Value.ref (hp.objs.size + 1) :: us, []⟩ _ _ _ E0 (hr.make C us []) (I2.env0.make C us []) bind r2 hq) fun rr s2 z => ?_))
  rcases rr with er | fl
  · exact passN (X := X) _ _ _ _ er s2 I2 z
  · cases fl <;> first | exact False.elim z | skip
    obtain ⟨v', H2, os2, bare, un, hok, rv, rfl, d, fs, ea, ed, hd1, q⟩ := z
    obtain ⟨h2, g2, d2, t2, os2'⟩ := s2
    obtain ⟨t0, G, J, kG, ge, hoe, na⟩ := mk_end0 (d2 := d2) (t2 := t2) I up kk un hok os2 bare ea ed hd1
    exact ⟨rv, _, _, _, ⟨G, g2, d2, t2, os2'⟩, _, .ref C, some d, rfl, J, kG, ge, hoe, ⟨rfl, rfl, fun us' e => by cases e; rfl⟩, rfl, rfl, na, rfl, bare, raises_own T.ex T.ty, q⟩
theorem del_back {H : Hp} {a d : Addr} {o1 o2 o3 o4 o5 : HO} (ha : H a = none) (hd : d ≠ a) : upd (del (upd (upd (upd (upd H a o1) d o2) a o3) d o4) a) d o5 = upd H d o5 := by
  funext c
  by_cases h1 : c = d
  · rw [h1, upd_same, upd_same]
  · rw [upd_ne h1, upd_ne h1]
    by_cases h2 : c = a
    · rw [h2, del_same, ha]
    · rw [del_ne h2, upd_ne h1, upd_ne h2, upd_ne h1, upd_ne h2]
theorem del_back0 {H : Hp} {a d : Addr} {o1 o2 o3 o5 : HO} (ha : H a = none) (hd : d ≠ a) : upd (del (upd (upd (upd H a o1) d o2) a o3) a) d o5 = upd H d o5 := by
  funext c
  by_cases h1 : c = d
  · rw [h1, upd_same, upd_same]
  · rw [upd_ne h1, upd_ne h1]
    by_cases h2 : c = a
    · rw [h2, del_same, ha]
    · rw [del_ne h2, upd_ne h2, upd_ne h1, upd_ne h2]
/-- C(), a class with the tag alone -/
theorem pmk_x0 (T : XcI X.K C b fI) (F : FnOk X.prog X.w X.K X.mg X.base (L2N.CX X.prog X.w) 1 fI fd ["self"] (spI0 C tag)) (hr : Room 2 X.A) (hb : L2.Binds X.K fd ["self"] []) (hg : Gl X x) (hm : X.mg x = some (.ref C)) (hdb : (x == ("__debug__" : Str)) = false := by decide) :
    L2N.PMk X (.Call (.Name x p) [] [] pos) (fun σ H Q => ∀ d, H d = none → Q (.ref C) (some d) (upd H d (.xd [("tag", .str tag)]))) := by
  intro pins s σ H Q I h
  refine wpAny_Call_Name_kw (ld_glob I hg hm ?_ hdb)
  refine PySem.W.callWith_K0 I.kIn T.kp (run_exc (vs := []) T F hr hb I .nil (by simp) fun a ha => ⟨a, rfl, upd_same, fun dx n ne => ?_⟩)
  have n' : H dx = none := by rw [upd_ne ne] at n; exact n
  exact ⟨rfl, dx, _, upd_same, by rw [upd_ne ne, upd_same], n', by rw [del_back0 ha ne]; exact h dx n'⟩
/-- C(e), a class with the tag and one field -/
theorem pmk_x1 {e : Expr} {ta : TA} (T : XcI X.K C b fI) (F : FnOk X.prog X.w X.K X.mg X.base (L2N.CX X.prog X.w) 1 fI fd ["self", f] (spI1 C tag f)) (hr : Room 2 X.A) (hb : L2.Binds X.K fd ["self", f] []) (hg : Gl X x) (hm : X.mg x = some (.ref C)) (ha : PA X [e] ta)
    (hdb : (x == ("__debug__" : Str)) = false := by decide) (he : starEach [e] X.env = (false, eval e X.env) :: starEach [] X.env := by rfl) (hpl : (backTo pos (starEach [] X.env)).any (·.1) = false := by rfl) :
    L2N.PMk X (.Call (.Name x p) [e] [] pos) (fun σ H Q => ta σ H fun vs H1 => ∃ v, vs = [v] ∧ ∀ d, H1 d = none → Q (.ref C) (some d) (upd H1 d (.xd [(f, v), ("tag", .str tag)]))) := by
  intro pins s σ H Q I h
  refine wpAny_Call_Name_kw (ld_glob I hg hm ?_ hdb)
  refine PySem.W.callWith_K (h₀ := X.base) I.ok.mod.kin T.kp (thn (ha.run pos pins s σ H _ I h) fun us s1 ⟨vs, H1, I1, r1, v, ev, q1⟩ => ⟨I1.kIn, ?_⟩) he hpl
  subst ev
  have few : us.length ≤ 1000 := by rw [← r1.length]; simp
  refine run_exc T F hr hb I1 r1 few fun a ha => ⟨a, v, rfl, upd_same, fun dx n ne => ?_⟩
  have n' : H1 dx = none := by rw [upd_ne ne] at n; exact n
  exact ⟨rfl, dx, _, by rw [upd_ne ne.symm, upd_same], upd_same, n', by rw [del_back ha ne]; exact q1 dx n'⟩
end
/-! ### raise, over trees -/
def sRaise0 (x : Str) : MS := fun _ _ => .err ⟨x, ["tag"], [.str x]⟩
def sRaise1 (x f : Str) (fe : MA) : MS := fun e g => (fe e g).bind fun p => match p.1 with
  | [d] => .err ⟨x, [f, "tag"], [d, .str x]⟩
  | _ => .stuck
section
variable {C : Ctx} {Ca fI : Addr} {b : Bs} {fd : FuncData} {x f : Str} {p pos rpos : Pos} {a : Expr} {fs : MA}
theorem ds_raise0 (T : XcI C.X.K Ca b fI) (F : FnOk C.X.prog C.X.w C.X.K C.X.mg C.X.base (L2N.CX C.X.prog C.X.w) 1 fI fd ["self"] (spI0 Ca x)) (hr : Room 2 C.X.A) (hb : L2.Binds C.X.K fd ["self"] []) (hm : C.X.mg x = some (.ref Ca)) (hc : C.cm x = some Ca) (tk : L2N.Takes C.X C.W)
    (hg : Gl C.X x := by rfl) (hcalm : C.X.calm = true := by rfl) (hdb : (x == ("__debug__" : Str)) = false := by decide) : DS C (.Raise (some (.Call (.Name x p) [] [] pos)) none rpos) (sRaise0 x) :=
  ps_imp (L2N.ps_raise hcalm tk (pmk_x0 T F hr hb hg hm hdb)) fun DD σ H ⟨own, F', e, g, S, o⟩ => fun d n => by
    have s : Same H (upd H d (.xd [("tag", .str x)])) := fun a o z => by rw [upd_ne (ne_of_none z n)]; exact z
    exact o own σ e g _ _ _ (S.same s) ⟨Ca, d, [.str x], ⟨hc, T.xf, fun n hn => by rw [List.mem_singleton.mp hn]; exact T.ft⟩, rfl, rfl, upd_same, rfl, .cons (.str_ _) .nil⟩
theorem ds_raise1 (T : XcI C.X.K Ca b fI) (F : FnOk C.X.prog C.X.w C.X.K C.X.mg C.X.base (L2N.CX C.X.prog C.X.w) 1 fI fd ["self", f] (spI1 Ca x f)) (hr : Room 2 C.X.A) (hb : L2.Binds C.X.K fd ["self", f] []) (hm : C.X.mg x = some (.ref Ca)) (hc : C.cm x = some Ca) (hff : findIn C.X.K (.ref Ca) f = some none) (tk : L2N.Takes C.X C.W) (ha : DA C [a] fs)
    (hg : Gl C.X x := by rfl) (hcalm : C.X.calm = true := by rfl) (hdb : (x == ("__debug__" : Str)) = false := by decide) (he : starEach [a] C.X.env = (false, eval a C.X.env) :: starEach [] C.X.env := by rfl) (hpl : (backTo pos (starEach [] C.X.env)).any (·.1) = false := by rfl) :
    DS C (.Raise (some (.Call (.Name x p) [a] [] pos)) none rpos) (sRaise1 x f fs) :=
  ps_imp (L2N.ps_raise hcalm tk (pmk_x1 T F hr hb hg hm ha hdb he hpl)) fun DD σ H ⟨own, F', e, g, S, o⟩ => ⟨own, F', e, g, S, OutS.bindA o fun l g1 H1 vs x1 S1 r1 o1 => by
    match l, r1, o1 with
    | [d0], r1, o1 =>
      obtain ⟨v, rfl, rv⟩ := one_of r1
      refine ⟨v, rfl, fun d n => ?_⟩
      have s : Same H1 (upd H1 d (.xd [(f, v), ("tag", .str x)])) := fun a o z => by rw [upd_ne (ne_of_none z n)]; exact z
      exact o1 own σ e g1 _ _ _ (S1.same s) ⟨Ca, d, [v, .str x], ⟨hc, T.xf, fun n hn => by
        rcases List.mem_cons.mp hn with z | z
        · rw [z]; exact hff
        · rw [List.mem_singleton.mp z]; exact T.ft⟩, rfl, rfl, upd_same, rfl, .cons (rv.mono (.same s) fun _ q _ => q) (.cons (.str_ _) .nil)⟩⟩
end
end DL

set_option Elab.async false
set_option linter.all false
set_option maxRecDepth 100000
set_option maxHeartbeats 2000000
/-! DLy: within an except suite: two names at once, a caught exception's fields, the call of a def that reads them; a try of several clauses. -/
namespace DL
open PySem PySem.Spec PySem.W PyProof.Rows L2 HotX
section
variable {prog : Program} {w : World} {A : Around} {E : Value → Shared → Prop} {s : Shared}
theorem tup_end_hot {it t x1 : Addr} {i : Nat} {its : Array Value} {Q : Option Value → Shared → Prop} (hot : HotAt A x1 s.heap) (hit : IsTupIter s.heap it t i) (ht : IsTup s.heap t its) (hx : its[i]? = none) (ne : x1 ≠ it)
    (k : ∀ h2, (∀ b o, b ≠ it → s.heap.get? b = some o → h2.get? b = some o) → Q none { s with heap := h2 }) : wpAny (model prog w) A (pyNext (.ref it)) Q E s := by
  obtain ⟨oi, g1, cI, dI⟩ := id hit
  obtain ⟨ot, g2, _, nT, dT⟩ := ht
  obtain ⟨hh, o1, vs1, h1, d1, c1⟩ := hot
  unfold pyNext
  refine wpAny_bind (wpAny_attempt (wpAny_callSpecial?_slot (name := Str.ofString "__next__") hit.typeIs slot_tupleiter_next (wpAny_call_entry slot_tupleiter_next hit.typeIs entry_tupleiter_next ?_ (args_tupleiter_next _))))
  show wpAny (model prog w) A.in1 (field (.ref it) 0 >>= _) _ _ s
  refine wpAny_bind (wpAny_field g1 dI (x := .ref t) rfl ?_)
  show wpAny _ _ (if (Value.ref t == Value.none) = true then _ else _) _ _ s
  rw [if_neg (by exact Bool.false_ne_true)]
  show wpAny (model prog w) A.in1 (field (.ref it) 1 >>= _) _ _ s
  refine wpAny_bind (wpAny_field g1 dI (x := .int i 0) rfl ?_)
  show wpAny (model prog w) A.in1 (seqItems? (.ref t) >>= _) _ _ s
  refine wpAny_bind (wpAny_seqItems g2 dT ?_)
  simp only [Int.toNat_natCast, hx]
  refine wpAny_bind (wpAny_rule (wpAny_bind (wpAny_setField g1 dI (by simp) ?_)))
  show wpAny (model prog w) A.in1 (newExc (.type "StopIteration") [] >>= _) _ _ _
  refine wpAny_bind ?_
  simp only [newExc, newTuple]
  refine wpAny_bind (wpAny_newObj_type ?_ (by size_fits))
  refine wpAny_bind (m := firstArgMember _ _) (wpAny_of_eq (a := Value.none) (by first | rfl | (simp only [firstArgMember]; rfl)) (wpAny_newObj_type ?_ (by size_fits)))
  have h1' : ∀ f : Obj → Obj, (s.heap.update it f).get? x1 = some o1 := fun f => (Heap.get?_update_other _ _ ne.symm).trans h1
  refine raiseNew_hot ⟨hh, o1, vs1, Heap.get?_push_of_some _ (Heap.get?_push_of_some _ (h1' _)), d1, c1⟩ (Nat.ne_of_lt (Heap.lt_size (Heap.get?_push_of_some _ (h1' _)))) (Heap.get?_push_size _ rfl) rfl (by first | (simp; done) | (simp; omega) | (simp only [Array.size_append]; simp; omega)) ?_
  refine wpAny_bind (wpAny_isInstance (T := "StopIteration") (b := true) ⟨_, Heap.get?_update_self _ (Heap.get?_push_size _ rfl) rfl, rfl⟩ isSubtype_stop (wpAny_pure (k _ fun b o hb e => ?_)))
  have e1 : ∀ f : Obj → Obj, (s.heap.update it f).get? b = some o := fun f => (Heap.get?_update_other _ _ (Ne.symm hb)).trans e
  rw [Heap.get?_update_other _ _ (Nat.ne_of_gt (Heap.lt_size (Heap.get?_push_of_some _ (e1 _))))]
  exact Heap.get?_push_of_some _ (Heap.get?_push_of_some _ (e1 _))
theorem pair_hot {t x1 : Addr} {u1 u2 : Value} {Q : List Value → Shared → Prop} (hot : HotAt A x1 s.heap) (ht : IsTup s.heap t #[u1, u2]) (k : ∀ h2, (∀ b o, s.heap.get? b = some o → h2.get? b = some o) → Q [u1, u2] { s with heap := h2 }) :
    wpAny (model prog w) A (unpackItems (.ref t) 2 none) Q E s := by
  have old : t < s.heap.objs.size := by
    obtain ⟨o, e, _⟩ := ht
    exact Heap.lt_size e
  have nt : t ≠ s.heap.objs.size := Nat.ne_of_lt old
  obtain ⟨hh, o1, vs1, h1, d1, c1⟩ := hot
  have n1 : x1 ≠ s.heap.objs.size := Nat.ne_of_lt (Heap.lt_size h1)
  unfold unpackItems notIterableAtAll
  refine wpAny_bind (wpAny_bind (wpAny_specialOf ht.typeIs slot_tuple_iter.lookup (wpAny_pure ?_)))
  simp only [Bool.false_eq_true, if_false]
  refine wpAny_bind (wpAny_holding (iter_tuple ht (wpAny_bind (wpAny_holding (draw_tuple nt 2 0 _ _ ⟨_, Heap.get?_push_size _ rfl, rfl, rfl⟩ (ht.push _) (by simp) fun h3 it3 sb3 => ?_)))))
  have all : List.take 2 (List.drop 0 (#[u1, u2] : Array Value).toList) = [u1, u2] := by simp
  rw [all, if_neg (by simp)]
  have ht3 : IsTup h3 t #[u1, u2] := (ht.push _).extBut sb3.extBut nt
  have hot3 : HotAt A.in1 x1 h3 := ⟨hh, o1, vs1, (sb3.2 x1 n1).trans (Heap.get?_push_of_some _ h1), d1, c1⟩
  refine wpAny_bind (wpAny_holding (tup_end_hot hot3 it3 ht3 (by simp) n1 fun h4 k4 => ?_))
  simp only [Option.isSome_none, Bool.false_eq_true, if_false]
  refine wpAny_pure (k h4 fun b o e => ?_)
  have nb : b ≠ s.heap.objs.size := Nat.ne_of_lt (Heap.lt_size e)
  exact k4 b o nb ((sb3.2 b nb).trans (Heap.get?_push_of_some _ e))
end
/-- a, b = x, y within a suite -/
theorem ps_parH {X : Cx} {i j : Nat} {x y : Str} {a b : Expr} {ta : TA} {px py pt pos : Pos} {kt k2 pt2} (hc : L2H.HotC X) (hN : X.N.Nodup) (hi : X.N[i]? = some x) (hj : X.N[j]? = some y) (hij : i ≠ j)
    (hx : X.env.scope.names.lookup x = some .local) (hy : X.env.scope.names.lookup y = some .local) (ha : PA X [a, b] ta)
    (hw : swappedStores [.Tuple [.Name x px, .Name y py] kt pt] (.Tuple [a, b] k2 pt2) X.env = pure (some [x, y]))
    (hs : swapsWithSole [.Tuple [.Name x px, .Name y py] kt pt] (.Tuple [a, b] k2 pt2) pos.line X.env = pure false := by rfl) :
    PS X (.Assign [.Tuple [.Name x px, .Name y py] kt pt] (.Tuple [a, b] k2 pt2) pos) (tPar i j ta) := by
  refine ⟨fun pins s σ H D I h => ?_⟩
  rw [exec_Assign_arm]
  refine wpAny_bind (wpAny_standAt ?_)
  rw [hs]
  refine wpAny_bind (wpAny_pure ?_)
  rw [if_neg (by decide)]
  refine wpAny_bind (Tuple_ (thn (ha.run _ pins s σ H _ I h) fun us s1 ⟨vs, H1, I1, r1, v, w, ev, q1⟩ => ?_))
  subst ev
  obtain ⟨u1, u2, rfl, rv, rw'⟩ : ∃ u1 u2, us = [u1, u2] ∧ L2.RelV v u1 ∧ L2.RelV w u2 := by
    cases r1 with
    | cons p z => cases z with
      | cons p' z' => cases z'; exact ⟨_, _, rfl, p, p'⟩
  refine wpAny_newObj_type ?_ (by show 2 ≤ sizeLine; decide)
  have I2 := I1.kept (t' := s1.toks) (h' := s1.heap.push { cls := .type "tuple", data := .seq [u1, u2].toArray }) fun b o e => Heap.get?_push_of_some _ e
  obtain ⟨x1, hot⟩ := hc.at I2
  rw [hw]
  refine wpAny_bind (wpAny_pure ?_)
  show wpAny (model X.prog X.w) X.A (do rule "assign.swapped-stores"; let its ← unpackItems (.ref s1.heap.objs.size) 2 none; assignInOrder [fun v => bindName X.env y v, fun v => bindName X.env x v] its.reverse; pure Flow.next) _ _ _
  refine wpAny_bind (wpAny_rule (wpAny_bind (pair_hot hot (IsTup.new s1.heap _) fun h2 k2 => ?_)))
  have I3 := I2.kept (t' := s1.toks) (h' := h2) k2
  show wpAny _ _ (assignInOrder [fun v => bindName X.env y v, fun v => bindName X.env x v] [u2, u1] >>= fun _ => pure Flow.next) _ _ _
  refine wpAny_bind (assignInOrder_cons (wpAny_bindName (store_ok I3 hN hj (.inl hy) rw' (fun s2 I4 => ?_) (.inr hy))))
  refine assignInOrder_cons (wpAny_bindName (store_ok I4 hN hi (.inl hx) rv (fun s3 I5 => assignInOrder_nil (wpAny_pure ?_)) (.inr hx)))
  rw [List.set_comm _ _ hij.symm] at I5
  exact ⟨_, H1, I5, q1⟩
/-! ### a try of several clauses, each with a name for the exception -/
structure Cl where
  cs : List Value
  i : Nat
  ts : Addr → Value → Option Addr → TS
def Cl.ends (c : Cl) (D : Ends) : Ends := { nx := fun σ H => D.nx (σ.set c.i none) H, rt := D.rt, bk := fun σ H => D.bk (σ.set c.i none) H, ct := fun σ H => D.ct (σ.set c.i none) H }
/-- what the clauses wish of an exception -/
def wCl (K : PySem.W.Frag) (Wout : WX) (D : Ends) : List Cl → WX
  | [] => Wout
  | c :: r => fun cls d σ H => ∃ b, exmAny K cls c.cs = some b ∧ (b = true → ∀ a, H a = none → c.ts a cls d (c.ends D) (σ.set c.i (some (.ref a))) H) ∧ (b = false → wCl K Wout D r cls d σ H)
inductive TestOk (X : Cx) : Expr → List Value → Prop
  | one {x : Str} {c : Value} {p : Pos} (h : Names X x c) : TestOk X (.Name x p) [c]
  | two {x y : Str} {c d : Value} {p1 p2 p : Pos} {k : Nat} (h : Names X x c) (h2 : Names X y d) : TestOk X (.Tuple [.Name x p1, .Name y p2] k p) [c, d]
inductive ClsOk (X : Cx) : List ExceptHandler → List Cl → Prop
  | nil : ClsOk X [] []
  | cons {tst : Expr} {cs : List Value} {n : Str} {i : Nat} {ts : Addr → Value → Option Addr → TS} {b₀ : Stmt} {suite : List Stmt} {p : Pos} {hds : List ExceptHandler} {l : List Cl} (ht : TestOk X tst cs) (hi : X.N[i]? = some n) (hln : X.env.kindOf n = some .local)
      (hsu : ∀ (a : Addr) (oe : Obj) (cls : Value) (d : Option Addr) (pn : List (Addr × Obj)), L2N.Zn cls d oe → (∃ vs, oe.data = .fields vs) → PSs (X.suite a ((a, oe) :: pn)) (b₀ :: suite) (ts a cls d)) (r : ClsOk X hds l) :
      ClsOk X (.ExceptHandler (some tst) (some n) (b₀ :: suite) p :: hds) (⟨cs, i, ts⟩ :: l)
theorem fly_kept {B h h2 : Heap} {l : List PySem.Env} {a : Addr} {Z : Obj → Prop} (fl : HandSPX.FlyingZ B l a Z h) (k : ∀ c o, h.get? c = some o → h2.get? c = some o) : HandSPX.FlyingZ B l a Z h2 := by
  obtain ⟨k1, k2, k3, oe, vs, T, oT, ts, e1, e2, e3, e4, e5, e6, e7, e8, e9⟩ := fl
  exact ⟨fun b o e => k _ _ (k1 b o e), k2, k3.of_keeps fun b o e _ => ⟨o, k _ _ e, rfl⟩, oe, vs, T, oT, ts, k _ _ e1, e2, e3, e4, e5, e6, k _ _ e7, e8, e9⟩
section
variable {X : Cx} {cs : List Value} {tst : Expr}
theorem name_run {a : Addr} {oe : Obj} {pn pins : List (Addr × Obj)} {σ : L2.St} {H : Hp} {s : Shared} {x : Str} {c : Value} {np : Pos} (I : L2.Inv (X.suite a ((a, oe) :: pn)) pins σ H s) (h : Names X x c) {Q : Value → Shared → Prop} {E : Value → Shared → Prop} (q : Q c s) :
    wpAny (model X.prog X.w) (X.A.mark (some (.ref a))) (eval (.Name x np) X.env) Q E s := by
  obtain ⟨hg, hdb, hm | ⟨hm, hv, hn⟩⟩ := h
  · exact ld_glob (X := X.suite a ((a, oe) :: pn)) I hg hm q hdb
  · exact ld_blt (X := X.suite a ((a, oe) :: pn)) I hg hm hv q hn hdb
theorem test_run {a : Addr} {oe : Obj} {cls : Value} {pn pins : List (Addr × Obj)} {σ : L2.St} {H : Hp} {s : Shared} {b : Bool} (I : L2.Inv (X.suite a ((a, oe) :: pn)) pins σ H s) (ha : s.heap.get? a = some oe) (hcls : oe.cls = cls) (ht : TestOk X tst cs) (hx : exmAny X.K cls cs = some b)
    {Q : Bool → Shared → Prop} {E E2 : Value → Shared → Prop} (k : ∀ h2, (∀ c o, s.heap.get? c = some o → h2.get? c = some o) → Q b { s with heap := h2 }) :
    wpAny (model X.prog X.w) (X.A.mark (some (.ref a))) (eval tst X.env) (fun v s1 => wpAny (model X.prog X.w) (X.A.mark (some (.ref a))) (excMatches (.ref a) v) Q E2 s1) E s := by
  have LT : Looks (model X.prog X.w) s.heap (typeOf (.ref a)) cls := fun A Q E s k q => wpAny_typeOf_ref (k _ _ ha) (by rw [hcls]; exact q)
  cases ht with
  | one h =>
    obtain ⟨b1, d1, x1, y1, z1⟩ := exmAny_cons hx
    cases y1
    rw [Bool.or_false] at z1
    subst z1
    exact name_run I h ((exm_one I.kIn LT x1).here (k s.heap fun _ _ e => e))
  | @two x y c1 c2 p1 p2 p kk h h2 =>
    refine wpAny_Tuple_spliced ?_
    refine Calls.spliced_cons (name_run I h (Calls.spliced_cons (name_run I h2 (Calls.spliced_nil ⟨by show 2 ≤ sizeLine; decide, ?_⟩))))
    have kp : ∀ c o, s.heap.get? c = some o → (s.heap.push { cls := .type "tuple", data := .seq [c1, c2].toArray }).get? c = some o := fun c o e => Heap.get?_push_of_some _ e
    exact (exm_tup2 (I.kIn.keeps kp) (LT.keeps kp) (Heap.get?_push_size _ rfl) hx).here (k _ kp)
end
section
variable {X : Cx} {body : List Stmt} {h₀ : ExceptHandler} {hds : List ExceptHandler} {l : List Cl} {pos : Pos} {tb : WX → TS} {Wout : WX}
theorem ps_tryC (hs : X.stack = X.env :: X.outer) (hf : X.env.frame = some X.env.locals) (hN : X.N.Nodup) (tk : L2N.Takes X Wout)
    (hb : ∀ (W : WX) (pn : List (Addr × Obj)) (xe : Value → Shared → Prop), L2N.Takes (X.tr pn xe) W → PassesOwn (model X.prog X.w) X.A X.env xe → PSs (X.tr pn xe) body (tb W)) (hh : ClsOk X (h₀ :: hds) l) :
    PS X (.Try body (h₀ :: hds) [] [] pos) (fun D σ H => tb (wCl X.K Wout D l) D σ H) := by
  refine ⟨fun pins s σ H D I h => ?_⟩
  have ok := I.ok
  have frA : X.A.frames = some (X.env :: X.outer) := by rw [ok.frames, hs]
  refine wpAny_Try_except ?_
  refine wpAny_mono ((hb (wCl X.K Wout D l) (X.pn ++ pins) (fun e s1 => wpAny (model X.prog X.w) X.A (noteFrame e X.env) (fun _ s2 => wpAny (model X.prog X.w) X.A (setFlight e none) (fun _ s3 =>
    wpAny (model X.prog X.w) X.A (handleBy e X.env (h₀ :: hds)) (SP X pins D) X.xe s3) X.xe s2) X.xe s1) (fun u s1 xx => ?_) PassesOwn.looking).run [] s σ H D (I.toTry _) h) (fun f s1 z => ?_) (fun e s1 z => z)
  · obtain ⟨a, B, sI, pins1, σ1, H1, cls, d, rfl, J1, nb, up, sky, na, os, ag, w⟩ := xx
    have J : L2.Inv X pins σ1 H1 sI := J1.ofTry ok
    have sky1 : Sky B (X.env :: X.outer) a (L2N.Zn cls d) X.env.locals s1.heap := by rw [← hs]; exact sky
    show wpAny (model X.prog X.w) X.A (noteFrame (.ref a) X.env) _ _ _
    refine L2N.Sky.land L2N.Zn.steady frA hf sky1 fun h3 fl3 up3 => ?_
    have away : ∀ {h : Heap}, HandSPX.FlyingZ B (X.env :: X.outer) a (L2N.Zn cls d) h → a ∉ frs (X.env :: X.outer) := fun {h} fl hm => by
      obtain ⟨_, _, ff, oe, vs, _, _, _, e, _, dd, _⟩ := fl
      obtain ⟨_, o1, e1, nf⟩ := ff.mem hm
      rw [e] at e1; cases e1
      exact nf _ dd
    have nfr := away fl3
    have nL : a ≠ X.env.locals := fun q => nfr (List.mem_filterMap.mpr ⟨X.env, List.mem_cons_self, by rw [hf, q]⟩)
    have nF : a ∉ X.fs := fun hm => by
      obtain ⟨e, he, q⟩ := List.mem_filterMap.mp hm
      exact nfr (List.mem_filterMap.mpr ⟨e, List.mem_cons_of_mem _ he, q⟩)
    -- clause by clause
    have go : ∀ {hds2 : List ExceptHandler} {l2 : List Cl}, ClsOk X hds2 l2 → ∀ h4, HandSPX.FlyingZ B (X.env :: X.outer) a (L2N.Zn cls d) h4 → sI.heap.UpToSlots h4 → wCl X.K Wout D l2 cls d σ1 H1 →
        wpAny (model X.prog X.w) X.A (handleBy (.ref a) X.env hds2) (SP X pins D) X.xe { s1 with heap := h4 } := by
      intro hds2 l2 hk
      induction hk with
      | nil =>
        intro h4 fl4 up4 w
        refine wpAny_handleBy_nil ?_
        obtain ⟨k1, k2, k3, oe, vs, T, oT, ts, he, hz, hd, h1, hr⟩ := id fl4
        unfold PySem.passOn
        refine wpAny_bind (wpAny_field he hd h1 ?_)
        rw [if_neg (show ¬ ((Value.ref T == Value.none) = true) from by simp)]
        have go2 : wpAny (model X.prog X.w) X.A (setFlight (.ref a) X.env.frame) (fun _ s5 => wpAny (model X.prog X.w) X.A (throw (.ref a) : Sem Flow) (SP X pins D) X.xe s5) X.xe { s1 with heap := h4 } := by
          rw [hf]
          exact HandSPX.setFlight_upZ fl4 fun h5 hh5 up5 => wpAny_throw (tk _ _ ⟨a, B, sI, pins, σ1, H1, cls, d, rfl, J, nb, up4.trans up5, .inr (.inr (by rw [hs]; exact hh5)), na, os, ag, w⟩)
        first
          | exact wpAny_bind (wpAny_pure (wpAny_bind go2))
          | exact wpAny_bind go2
      | @cons tst cs n i ts b₀ suite p hds3 l3 ht hi hln hsu r ih =>
        intro h4 fl4 up4 w
        obtain ⟨b, hx, yes, no⟩ := w
        have J4 : L2.Inv X pins σ1 H1 { s1 with heap := h4 } := J.landed nb fl4.1 up4 os ag
        obtain ⟨oe4, vs4, he4, hz4, hd4⟩ := fl4.there
        have S4 := J4.suite he4 hd4 na nL nF
        refine wpAny_handleBy_cons (codeAny_handlers_test ?_) (by intro q; cases q)
        refine test_run S4 he4 hz4.1 ht hx fun h5 k5 => ?_
        have fl5 := fly_kept fl4 k5
        have up5 := up4.trans (Heap.UpToSlots.of_keeps k5)
        cases b with
        | true =>
          refine codeAny_handlers_suite_as (HandSPX.lands_againZ fl5 fun h6 fl6 up6 => ?_)
          have J6 : L2.Inv X pins σ1 H1 { s1 with heap := h6 } := J.landed nb fl6.1 (up5.trans up6) os ag
          obtain ⟨oe6, vs6, he6, hz6, hd6⟩ := fl6.there
          have S6 := J6.suite he6 hd6 na nL nF
          refine store_ok (X := X.suite a ((a, oe6) :: (X.pn ++ pins))) (v := .ref a) S6 hN hi (.inl hln) rfl (fun s7 S7 => ?_) (.inr hln)
          refine wpAny_mono ((hsu a oe6 cls d (X.pn ++ pins) hz6 ⟨_, hd6⟩).run [] s7 _ H1 _ S7 (yes rfl a na)) (fun f s8 z => ?_) (fun _ _ z => False.elim z)
          have fin : ∀ {σ8 : L2.St} {H8 : Hp} {Q : Shared → Prop}, L2.Inv (X.suite a ((a, oe6) :: (X.pn ++ pins))) [] σ8 H8 s8 → (∀ s9, L2.Inv X pins (σ8.set i none) H8 s9 → Q s9) →
              wpAny (model X.prog X.w) X.A (do bindName X.env n .none; unbindBehindTheSuite X.env n p) (fun _ s9 => Q s9) X.xe s8 := fun {σ8 H8 Q} S8 hq => gone_ok (S8.unsuite ok) hN hi hln hq
          cases f with
          | next =>
            obtain ⟨σ8, H8, S8, q8⟩ := z
            exact fin S8 fun s9 J9 => ⟨_, _, J9, q8⟩
          | brk =>
            obtain ⟨σ8, H8, S8, q8⟩ := z
            exact fin S8 fun s9 J9 => ⟨_, _, J9, q8⟩
          | cont =>
            obtain ⟨σ8, H8, S8, q8⟩ := z
            exact fin S8 fun s9 J9 => ⟨_, _, J9, q8⟩
          | ret u =>
            obtain ⟨v8, σ8, H8, S8, r8, q8⟩ := z
            exact fin S8 fun s9 J9 => ⟨_, _, _, J9, r8, q8⟩
        | false =>
          show wpAny _ X.A (handleBy (.ref a) X.env hds3) _ _ _
          exact ih h5 fl5 up5 (no rfl)
    exact go hh h3 fl3 (up.trans up3) w
  · cases f with
    | next =>
      obtain ⟨σ1, H1, J1, q⟩ := z
      exact wpAny_execs_nil ⟨σ1, H1, J1.ofTry ok, q⟩
    | brk =>
      obtain ⟨σ1, H1, J1, q⟩ := z
      exact ⟨σ1, H1, J1.ofTry ok, q⟩
    | cont =>
      obtain ⟨σ1, H1, J1, q⟩ := z
      exact ⟨σ1, H1, J1.ofTry ok, q⟩
    | ret u =>
      obtain ⟨v, σ1, H1, J1, r, q⟩ := z
      exact ⟨v, σ1, H1, J1.ofTry ok, r, q⟩
end
end DL

set_option Elab.async false
set_option linter.all false
set_option maxRecDepth 100000
set_option maxHeartbeats 2000000
/-! DLz: the fields of a caught exception; a def that reads them; lambdas without parameters whose exceptions are told. -/
namespace DL
open PySem PySem.Spec PySem.W PyProof.Rows L2 HotX
/-! ### e.f, e pinned -/
def tXp (K : PySem.W.Frag) (p : Addr × Obj) (n : Str) (te : TE) : TE := fun σ H Q => te σ H fun x H1 => x = .ref p.1 ∧ ∃ (Ca dd : Addr) (fs : List (Str × V)) (v : V), Zc (.ref Ca) (some dd) p.2 ∧ (∃ us, p.2.data = .fields us) ∧ L2.XfC K Ca ∧ findIn K (.ref Ca) n = some none ∧ H1 dd = some (.xd fs) ∧ fs.lookup n = some v ∧ Q v H1
theorem pe_xfP {X : Cx} {p : Addr × Obj} {e : Expr} {te : TE} {pos : Pos} {n : Str} (hp : p ∈ X.pn) (he : PE X e te) (hb : attributeBase e n X.env (eval e X.env) = eval e X.env := by rfl) : PE X (.Attribute e n pos) (tXp X.K p n te) := by
  refine ⟨fun pins s σ H Q I h => attr_of hb (thn (he.run pins s σ H _ I h) fun u s1 ⟨x, H1, I1, rx, q1⟩ => ?_)⟩
  obtain ⟨rfl, Ca, dd, fs, v, hz, ⟨us, hf⟩, T, hno, ea, l, q⟩ := q1
  obtain rfl : u = Value.ref p.1 := rx
  obtain ⟨ha, _⟩ := I1.pin p (List.mem_append_left _ hp)
  have hx : ObjOk X.prog X.w H1 s1.heap dd (.xd fs) := I1.hok dd _ ea
  obtain ⟨mA, hns, hr⟩ := hx
  obtain ⟨od, ho, hl⟩ := lookIn_ns hns
  obtain ⟨u, hu, ru⟩ := RelO.some_of (v := v) (o := mA n) (by rw [← l]; exact hr n)
  have J : PySem.W.InstAt s1.heap p.1 p.2 Ca (some od) := ⟨ha, hz.1, by unfold PySem.W.notCls; rw [hf] <;> rfl, by rw [hz.2]; exact ho⟩
  exact HandSPX.exc_get I1.kIn J T.ga T.gg T.exC (PySem.W.findObj_own T.hdC hno rfl (by rw [hl, hu])) (handed_of ru) ⟨v, H1, I1.tok _, ru, q⟩
theorem zip_lookup {g : G} {H : Hp} {A : Addr → Prop} {n : Str} {d : D} : ∀ {ns : List Str} {l : List D} {vs : List V}, RepL g H A l vs → (ns.zip l).lookup n = some d → ∃ v, (ns.zip vs).lookup n = some v ∧ Rep g H A d v ∧ n ∈ ns
  | [], l, vs, r, h => by cases h
  | m :: ns, [], vs, r, h => by cases h
  | m :: ns, x :: l, vs, r, h => by
    obtain ⟨v, vs', rfl, rv, rr⟩ := r.toCons
    rw [List.zip_cons_cons, List.lookup_cons] at h ⊢
    by_cases hm : (n == m) = true
    · rw [hm] at h ⊢
      cases h
      exact ⟨v, rfl, rv, by rw [beq_iff_eq] at hm; rw [hm]; exact List.mem_cons_self⟩
    · rw [Bool.not_eq_true] at hm
      rw [hm] at h ⊢
      obtain ⟨w, h1, h2, h3⟩ := zip_lookup rr h
      exact ⟨w, h1, h2, List.mem_cons_of_mem _ h3⟩
def eXf (i : Nat) (n : Str) : ME := fun e g => match e[i]? with
  | some (.ex x) => match (x.ns.zip x.l).lookup n with
    | some d => .ok (d, g)
    | none => .stuck
  | _ => .stuck
theorem de_xf {C : Ctx} {i : Nat} {n y : Str} {p : Addr × Obj} {p1 pos : Pos} (hc : C.exc = some p) (hp : p ∈ C.X.pn) (hv : PE C.X (.Name y p1) (tVar i)) (hb : attributeBase (.Name y p1) n C.X.env (eval (.Name y p1) C.X.env) = eval (.Name y p1) C.X.env := by rfl) : DE C (.Attribute (.Name y p1) n pos) (eXf i n) :=
  pe_imp (pe_xfP hp hv hb) fun σ H Q ⟨own, F, e, g, S, o⟩ => by
    unfold eXf at o
    cases hs : e[i]? with
    | none => rw [hs] at o; exact o.elim
    | some s =>
      rw [hs] at o
      cases s <;> first | exact o.elim | skip
      rename_i x
      obtain ⟨a, oe, Ca, dd, vs, h1, h2, h3, h4, h5, h6, h7, h8⟩ := S.sl i _ hs
      rw [hc] at h1
      cases h1
      cases hl : (x.ns.zip x.l).lookup n with
      | none => simp only [hl] at o; exact o.elim
      | some d =>
        simp only [hl] at o
        obtain ⟨v, q1, q2, q3⟩ := zip_lookup h8 hl
        exact ⟨.ref a, h2, rfl, Ca, dd, _, v, h3, h4, h5.1, h5.2 n q3, h6, q1, OutE.now S o q2⟩
/-! ### a def that gets a caught exception -/
structure FnE (P : Program) (w : World) (K : PySem.W.Frag) (mg : Str → Option Value) (base : Heap) (k : Nat) (f : Addr) (fd : FuncData) (ps : List Str) (sp : Addr × Obj → Sp) : Prop where
  len : ∀ p vs H Q E, sp p vs H Q E → vs.length = ps.length
  run : ∀ (A : Around) (outer : List PySem.Env) (s : Shared) (H : Hp) (args : Args) (us : List Value) (vs : List V) (Q : VK) (E : XK) (p : Addr × Obj), L2H.RoomH k A → L2H.PinOk outer H s p → Env0 P w K mg base A outer s H → BindsTo s fd args (ps.zip us) → Vals vs us → sp p vs H Q E →
    codeAny (model P w) A (.call (.ref f) args) (CR (L2N.CX P w) outer P w H s Q E) s
theorem fn_ofE {P : Program} {w : World} {K : PySem.W.Frag} {mg : Str → Option Value} {base : Heap} {x qual : Str} {params : Arguments} {body : List Stmt} {scope : Scope} {dvs : List V} {kws : List (Str × V)} {f : Addr} {fd : FuncData} {N ps : List Str} {k : Nat} {sp : Addr × Obj → Sp}
    (F : FunD K x qual params body scope dvs kws f fd) (S : FnScope N ps scope) (len : ∀ p vs H Q E, sp p vs H Q E → vs.length = ps.length)
    (hbody : ∀ (cdv : Value) (A : Around) (outer : List PySem.Env) (s : Shared) (H : Hp) (vs : List V) (Q : VK) (E : XK) (p : Addr × Obj), L2H.RoomH k (A.deeper (envOfC qual scope s.heap.objs.size f cdv)) → sp p vs H Q E →
      ∃ t, PSs (L2H.cxH (L2N.CX P w) P w K mg base N qual scope f cdv A outer s H E p) body t ∧ t { nx := fun _ H' => Q .non H', rt := Q } (L2.start N vs) H) : FnE P w K mg base (k + 1) f fd ps sp := by
  obtain ⟨oc, od, dV, kV, doc, pm, an, cdv, ct, osl, rfl, lk, hcd, _, _⟩ := F.ex
  refine ⟨len, fun A outer s H args us vs Q E p room pin e0 bind rel h => ?_⟩
  have lenV := len _ _ _ _ _ h
  have KX : K.In s.heap := e0.mod.kin.keeps fun b o e => (e0.bs b o e).1
  have free : s.heap.NoLimit := e0.mod.nolimit.keeps fun b o e => (e0.bs b o e).1
  have kinds : ∀ y ∈ ps.zip us, scope.names.lookup y.1 = some .local ∨ (scope.names.lookup y.1 = some .cell ∧ ((cellsFrom (s.heap.objs.size + 1) scope.names []).lookup y.1).isSome = true) := fun ⟨n, v⟩ hy =>
    (S.par n (List.of_mem_zip hy).1).elim .inl fun q => .inr ⟨q, PySem.W.cellsFrom_some _ _ _ (.inl q)⟩
  refine codeAny_call_function room.depth (KX _ _ lk) rfl S.co S.gen rfl (PySem.W.codeRec_of KX hcd) (bind _ _ _ _ (wpAny_newFunctionEnv_cells S.kind kinds fun env he s1 x => ?_))
  subst he
  refine ⟨free.keeps x.toInCall.keep, codeAny_func ?_⟩
  obtain ⟨t, ht, hq⟩ := hbody cdv A outer s H vs Q E p (room.deeper _) h
  refine wpAny_mono (ht.run [] s1 (L2.start N vs) H _ (L2H.inv_startH S pin e0 lenV rel x) hq) (fun fl s2 z => ?_) fun e s2 z => z
  cases fl with
  | ret u =>
    obtain ⟨v, σ', H', J, rv, q⟩ := z
    exact ⟨v, H', J.os, J.bare, J.base, J.hok, rv, q⟩
  | next =>
    obtain ⟨σ', H', J, q⟩ := z
    exact ⟨.non, H', J.os, J.bare, J.base, J.hok, rfl, q⟩
  | brk =>
    obtain ⟨_, _, _, q⟩ := z
    exact False.elim q
  | cont =>
    obtain ⟨_, _, _, q⟩ := z
    exact False.elim q
theorem pe_callE {X : Cx} {k : Nat} {f : Addr} {fd : FuncData} {ps : List Str} {sp : Addr × Obj → Sp} {x : Str} {q pos : Pos} {e : Expr} {t : TA} {p : Addr × Obj} (F : FnE X.prog X.w X.K X.mg X.base k f fd ps sp) (hr : L2H.RoomH k X.A) (hp : p ∈ X.pn) (hg : Gl X x) (hm : X.mg x = some (.ref f)) (hk : PySem.W.keepIn X.K (.ref f) = true) (hb : L2.Binds X.K fd ps [])
    (ha : PA X [e] t) (hdb : (x == ("__debug__" : Str)) = false := by decide) (he : starEach [e] X.env = (false, eval e X.env) :: starEach [] X.env := by rfl) (hpl : (backTo pos (starEach [] X.env)).any (·.1) = false := by rfl) :
    PE X (.Call (.Name x q) [e] [] pos) (fun σ H Q => t σ H fun vs H1 => sp p vs H1 Q E0) := by
  refine ⟨fun pins s σ H Q I h => wpAny_Call_Name_kw (ld_glob I hg hm ?_ hdb)⟩
  refine PySem.W.callWith_K (h₀ := X.base) I.ok.mod.kin hk (thn (ha.run pos pins s σ H _ I h) fun us s1 ⟨vs, H1, I1, r, q1⟩ => ⟨I1.kIn, ?_⟩) he hpl
  have len : us.length = ps.length := r.length.symm.trans (F.len _ _ _ _ _ q1)
  have b := hb s1 us I1.kIn (by rw [List.append_nil]; exact len)
  rw [List.append_nil] at b
  have P1 := I1.pin p (List.mem_append_left _ hp)
  have pin : L2H.PinOk X.stack H1 s1 p := ⟨P1.1, P1.2.1, fun hm => (List.mem_cons.mp (I1.stkSub p.1 hm)).elim P1.2.2.1 P1.2.2.2.1, P1.2.2.2.2⟩
  refine wpAny_call (codeAny_mono (F.run X.A X.stack s1 H1 ⟨us, []⟩ us vs Q E0 p hr pin I1.env0 b r q1) fun rr s2 z => ?_)
  rcases rr with er | fl
  · exact (passN (X := X) _ _ _ _ er s2 I1 z)
  · cases fl <;> first | exact False.elim z | exact I1.after z
/-- the promise of a def on a caught exception -/
def ExAt (g : G) (H : Hp) (A : Addr → Prop) (p : Addr × Obj) (x : Exc) : Prop := ∃ Ca dd vs, Zc (.ref Ca) (some dd) p.2 ∧ (∃ us, p.2.data = .fields us) ∧ XfOk g.K Ca x.ns ∧ H dd = some (.xd (x.ns.zip vs)) ∧ x.ns.length = vs.length ∧ RepL g H A x.l vs
def spE (g : G) (m : Exc → Res D) (p : Addr × Obj) : Sp := fun vs H Q E => ∃ (A : Addr → Prop) (x : Exc), vs = [.ref p.1] ∧ ExAt g H A p x ∧ Tabs g.tb H ∧ (∀ a, A a → ∀ q ∈ g.tb, q.1 ≠ a) ∧ OutD g H A E (m x) Q
def runE (n : Nat) (b : MS) (x : Exc) : Res D := resD (b (.ex x :: List.replicate (n - 1) .un) g0)
section
variable {P : Program} {w : World} {K : PySem.W.Frag} {mg : Str → Option Value} {base : Heap} {cm : Str → Option Addr} {tb : List (Addr × Str)}
abbrev ctxE (P : Program) (w : World) (K : PySem.W.Frag) (mg : Str → Option Value) (base : Heap) (cm : Str → Option Addr) (tb : List (Addr × Str)) (N : List Str) (qual : Str) (scope : Scope) (f : Addr) (cdv : Value) (A : Around) (outer : List PySem.Env) (s : Shared) (H : Hp) (E : XK) (A0 : Addr → Prop) (p : Addr × Obj) : Ctx :=
  { X := L2H.cxH (L2N.CX P w) P w K mg base N qual scope f cdv A outer s H E p, cm := cm, tb := tb, W := fun c dd _ H' => E c dd H', H0 := H, A := A0, rg := none, exc := some p }
theorem fn_spE {x qual y : Str} {st : Stmt} {dvs : List V} {kws : List (Str × V)} {f : Addr} {fd : FuncData} {N : List Str} {k : Nat} (F : FunD K x qual (defArgs st) (defBody st) (defScope st) dvs kws f fd) (S : FnScope N [y] (defScope st)) (hN : 1 ≤ N.length) (b : MS)
    (body : ∀ (cdv : Value) (A : Around) (outer : List PySem.Env) (s : Shared) (H : Hp) (E : XK) (A0 : Addr → Prop) (p : Addr × Obj), L2H.RoomH k (A.deeper (envOfC qual (defScope st) s.heap.objs.size f cdv)) → DSs (ctxE P w K mg base cm tb N qual (defScope st) f cdv A outer s H E A0 p) (defBody st) b) :
    FnE P w K mg base (k + 1) f fd [y] (spE ⟨K, cm, tb⟩ (runE N.length b)) := by
  refine fn_ofE F S (fun p vs H Q E ⟨A, z, h, _⟩ => by rw [h]; rfl) fun cdv A outer s H vs Q E p hr h => ?_
  obtain ⟨A0, z, rfl, ⟨Ca, dd, us, h1, h2, h3, h4, h5, h6⟩, tt, hA, o⟩ := h
  refine ⟨_, body cdv A outer s H E A0 p hr, ?_⟩
  let C : Ctx := ctxE P w K mg base cm tb N qual (defScope st) f cdv A outer s H E A0 p
  have nio : ∀ a, C.io a → ∃ q ∈ tb, q.1 = a := fun a h => h.elim (fun ⟨c, z⟩ => by cases z) id
  have at0 : ∀ a, C.io a → ∃ o, H a = some o ∧ MutO o := fun a h => by
    obtain ⟨q, hq, rfl⟩ := nio a h
    exact tt.at_ hq
  have r' : RepL C.g H (C.Al fun _ => none) z.l us := h6.mono (.same fun _ _ z => z) fun a q _ => ⟨.inl q, fun j h => (by cases h), fun h => by
    obtain ⟨q', hq, e⟩ := nio a h
    exact hA a q q' hq e⟩
  have S0 : SR C (fun _ => none) (fun _ => none) H (L2.start N [.ref p.1]) (.ex z :: List.replicate (N.length - 1) .un) g0 := by
    refine ⟨?_, fun i s' hs => ?_, fun i q h => ?_, fun i q h => ?_, fun i j q h => ?_, ⟨0, fun _ _ => rfl⟩, fun a o h _ => h, fun a o h => ?_, at0, tt, fun a h => ?_, fun r' c q => ?_⟩
    · unfold L2.start; simp
    · cases i with
      | zero => cases hs; exact ⟨p.1, p.2, Ca, dd, us, rfl, start_get rfl, h1, h2, h3, h4, h5, r'⟩
      | succ i =>
        rw [List.getElem?_cons_succ, List.getElem?_replicate] at hs
        split at hs
        · cases hs; trivial
        · cases hs
    · cases h
    · cases h
    · cases h
    · cases h
    · obtain ⟨o, e, _⟩ := at0 a h
      show H a ≠ none
      rw [e]; exact fun z => nomatch z
    · cases q
  have kp : ∀ {own' : Own} {F' H' : Hp} {σ' : L2.St} {e' : En} {g' : Rng}, SR C own' F' H' σ' e' g' → SameT tb H H' := fun S' a ob z n => S'.h0 a ob z fun hi => by
    obtain ⟨q, hq, e⟩ := nio a hi
    exact n q hq e
  refine ⟨fun _ => none, fun _ => none, _, g0, S0, ?_⟩
  show OutS C _ (b (.ex z :: List.replicate (N.length - 1) .un) g0) _
  unfold runE at o
  cases hb : b (.ex z :: List.replicate (N.length - 1) .un) g0 with
  | ok u =>
    rw [hb] at o
    cases u with
    | nx e g => exact fun own' σ' H' S' => o H' .non (kp S') S'.tb .non_
    | rt d g => exact fun own' σ' e' H' v S' r' => o H' v (kp S') S'.tb (r'.mono (.same fun _ _ z => z) fun a q _ => q.1)
    | bk e g => exact o.elim
    | ct e g => exact o.elim
  | err y =>
    rw [hb] at o
    exact fun own' σ' e' g' H' c dd S' ⟨Ca, d, ws, h1, h2, h3, h4, h5, h6⟩ => o H' c dd (kp S') S'.tb ⟨Ca, d, ws, h1, h2, h3, h4, h5, h6.mono (.same fun _ _ z => z) fun a q _ => q.1⟩
  | stuck => rw [hb] at o; exact o.elim
end
end DL
namespace DL
open PySem PySem.Spec PySem.W PyProof.Rows L2 HotX
/-! ### a lambda without parameters, its exceptions told -/
section
variable {X : Cx} {pins : List (Addr × Obj)} {σ : L2.St} {H HZ : Hp} {s s1 : Shared}
theorem lam_new {T : List (Addr × Str)} {c P : Addr} {ps : Arguments} {bd : Expr} {sc : Scope} {pos : Pos} {E : Value → Shared → Prop} {Q : Value → Shared → Prop} (I : L2.Inv X pins σ H s) (TB : LamX.TabB X.base X.mg c P) (hcode : X.env.code = .ref c)
    (hm : (P, X.env.qual ++ "<lambda>") ∈ T) (hu : ∀ p ∈ T, p.1 = P → p.2 = X.env.qual ++ "<lambda>") (hT : Tabs T H) (hd : defaultsOf ps X.env = ([], [])) (hfree : ∀ y ∈ sc.names, y.2 = .free → ∃ c, X.env.cells.lookup y.1 = some c)
    (k : ∀ (f c' : Addr) (pm ctv : Value) (H1 : Hp) (s' : Shared), L2.Inv X pins σ H1 s' → SameT T H H1 → Tabs T H1 →
      s'.heap.get? f = some (kla_obj "<lambda>" (X.env.qual ++ "<lambda>") ps bd sc (cloFrom X.env.cells sc.names []) pm c' ctv) → H1 f = none → f ∉ frs X.stack → H1 c' = some (LamX.CodeO c' (X.env.qual ++ "<lambda>")) → Q (.ref f) s') :
    wpAny (model X.prog X.w) X.A (eval (.Lambda ps bd sc pos) X.env) Q E s := by
  obtain ⟨tt, atP, trip, among⟩ := hT _ hm
  have bmP : s.heap.BuiltinsAt X.mg P := TB.bm.keeps I.bk
  have heapP : s.heap.get? P = some { cls := .none, data := .fields tt } := I.hok P _ atP
  have ltP := Heap.lt_size heapP
  have apart : ∀ f, s.heap.objs.size ≤ f → f ∉ frs X.stack := fun f hf z => (List.mem_cons.mp (I.stkSub _ z)).elim (fun e => absurd (e ▸ I.lt) (Nat.not_lt.mpr hf)) (I.nofs hf)
  refine kla_eval hd ?_
  cases hit : codeAmong pos tt.toList with
  | some cv =>
    obtain ⟨c', rfl, hco⟩ := among pos cv hit
    refine kla_makeFunctionHit (mg := X.mg) (c := c) (P := P) (ps := tt) (closure_ok hfree) I.ok.glob (I.mod.glob.keeps I.bk) hcode (TB.code.keeps I.bk) heapP trip hit bmP fun ctv h2 tk kp sz => ?_
    have J : L2.Inv X pins σ H { s with heap := h2.push (kla_obj "<lambda>" (X.env.qual ++ "<lambda>") ps bd sc (cloFrom X.env.cells sc.names []) ((X.mg "__name__").getD .none) c' ctv), toks := tk } := I.kept fun b o e => Heap.get?_push_of_some _ (kp b o e)
    exact k h2.objs.size c' _ ctv H _ J (fun _ _ e _ => e) hT (Heap.get?_push_size _ rfl) (I.hok.fresh sz) (apart _ sz) hco
  | none =>
    refine kla_makeFunction (mg := X.mg) (c := c) (P := P) (ps := tt) (closure_ok hfree) I.ok.glob (I.mod.glob.keeps I.bk) hcode (TB.code.keeps I.bk) heapP trip hit TB.gP bmP fun c' ctv h2 tk kp new lt hrec grown => ?_
    obtain ⟨c2, oc, vs, t, e2, hoc, hdc, hv⟩ := hrec
    cases e2
    have sz : s.heap.objs.size ≤ h2.objs.size := Nat.le_trans new (Nat.le_of_lt lt)
    have freeC : H c' = none := I.hok.fresh new
    have J := LamX.inv_table (t' := tk) (more := #[rawInt pos.line, rawInt pos.col, .ref c']) (h' := h2.push (kla_obj "<lambda>" (X.env.qual ++ "<lambda>") ps bd sc (cloFrom X.env.cells sc.names []) ((X.mg "__name__").getD .none) c' ctv)) I atP
      (fun b o hb e => Heap.get?_push_of_some _ (kp b o hb e)) (Heap.get?_push_of_some _ grown) new ⟨oc, vs, t, Heap.get?_push_of_some _ hoc, hdc, hv⟩
    have nPc : P ≠ c' := ne_of_none atP freeC
    have keep : ∀ b o, H b = some o → b ≠ P → upd (upd H P (.tbl (tt ++ #[rawInt pos.line, rawInt pos.col, .ref c']))) c' (LamX.CodeO c' (X.env.qual ++ "<lambda>")) b = some o := fun b o e nb => by
      rw [upd_ne (ne_of_none e freeC), upd_ne nb]; exact e
    have snoc : (tt ++ #[rawInt pos.line, rawInt pos.col, .ref c']).toList = tt.toList ++ [rawInt pos.line, rawInt pos.col, .ref c'] := by simp
    have tabs : Tabs T (upd (upd H P (.tbl (tt ++ #[rawInt pos.line, rawInt pos.col, .ref c']))) c' (LamX.CodeO c' (X.env.qual ++ "<lambda>"))) := fun p hp => by
      obtain ⟨ts, a1, a2, a3⟩ := hT p hp
      have code : ∀ {c0 : Addr} {qq : Str}, H c0 = some (LamX.CodeO c0 qq) → c0 ≠ P := fun {c0 qq} e z => by
        rw [z, atP] at e
        exact LamX.codeO_ne tt (Option.some.inj e).symm
      by_cases hb : p.1 = P
      · rw [hb] at a1 ⊢
        rw [atP] at a1
        cases a1
        have ep := hu p hp hb
        refine ⟨_, (upd_ne nPc).trans upd_same, by rw [snoc]; exact PySem.TriplesOk_snoc _ _ _ _ trip, fun p' cv hcv => ?_⟩
        rw [snoc] at hcv
        rcases LamX.among_app _ trip hcv with z | z
        · obtain ⟨c0, e1, e2⟩ := a3 p' cv z
          exact ⟨c0, e1, keep _ _ e2 (code e2)⟩
        · exact ⟨c', z, by rw [ep]; exact upd_same⟩
      · refine ⟨ts, keep _ _ a1 hb, a2, fun p' cv hcv => ?_⟩
        obtain ⟨c0, e1, e2⟩ := a3 p' cv hcv
        exact ⟨c0, e1, keep _ _ e2 (code e2)⟩
    refine k h2.objs.size c' _ ctv _ _ J (fun b o e nb => keep b o e fun z => nb _ hm z.symm) tabs (Heap.get?_push_size _ rfl) ?_ (apart _ sz) upd_same
    rw [upd_ne (show h2.objs.size ≠ c' from Nat.ne_of_gt lt), upd_ne (show h2.objs.size ≠ P from Nat.ne_of_gt (Nat.lt_of_lt_of_le ltP sz))]
    exact I.hok.fresh sz
/-- the context of the lambda's body -/
def lamN (X : Cx) (A : Around) (outer : List PySem.Env) (s : Shared) (H : Hp) (E : XK) (sc : Scope) (f c' : Addr) : Cx :=
  (LamX.lamCx X A outer s H E sc f c').wish fun e s' => wpAny (model X.prog X.w) (A.deeper (LamX.lamEnv X sc s.heap.objs.size f c')) (leaving (LamX.lamEnv X sc s.heap.objs.size f c') e) (fun _ s'' => L2N.CX X.prog X.w outer H s E e s'') (fun e' s'' => L2N.CX X.prog X.w outer H s E e' s'') s'
/-- x(), where x holds the lambda -/
theorem pe_actN {CXg : CXT} {Eg : XK} {Ng : List Str} {qg : Str} {sg : Scope} {g f c' : Addr} {cdg pm ctv : Value} {ps : Arguments} {bd : Expr} {sc : Scope} {k i : Nat} {a : Str} {pn : List (Addr × Obj)} {xe : Value → Shared → Prop} {W : WX} {E : XK} {tb : TE} {p1 p2 : Pos} {σ0 : L2.St}
    (I : L2.Inv X pins σ H s) (L : LamX.LamS X.env.scope sc) (hf : s.heap.get? f = some (kla_obj "<lambda>" (X.env.qual ++ "<lambda>") ps bd sc (cloFrom X.env.cells sc.names []) pm c' ctv)) (hfn : H f = none) (hfr : f ∉ frs X.stack)
    (hbind : bindArgs (kla_fn "<lambda>" (X.env.qual ++ "<lambda>") ps bd sc (cloFrom X.env.cells sc.names []) pm (.ref c') ctv) ⟨[], []⟩ = pure [])
    (tk : L2N.Takes ((cxOf CXg X.prog X.w X.K X.mg X.base Ng qg sg g cdg X.A X.stack s H Eg).tr pn xe) W) (hW : ∀ cls d H', E cls d H' → W cls d σ0 H') (hr : Room (k + 1) (X.A.deeper (envOfC qg sg s.heap.objs.size g cdg)))
    (hbody : ∀ (A : Around) (outer : List PySem.Env) (s : Shared) (H : Hp), Room k (A.deeper (LamX.lamEnv X sc s.heap.objs.size f c')) → PE (lamN X A outer s H E sc f c') bd tb)
    (hN : Ng[i]? = some a) (hv : Vis sg a) (hd : (a == ("__debug__" : Str)) = false := by decide) (hcd : (a == ("__classdict__" : Str)) = false := by decide) :
    PE ((cxOf CXg X.prog X.w X.K X.mg X.base Ng qg sg g cdg X.A X.stack s H Eg).tr pn xe) (.Call (.Name a p1) [] [] p2)
      (fun σZ HZ Q => σZ = σ0 ∧ σZ[i]? = some (some (.ref f)) ∧ HZ c' = some (LamX.CodeO c' (X.env.qual ++ "<lambda>")) ∧ tb σ HZ Q) := by
  refine ⟨fun pinsZ sZ σZ HZ Q IZ ⟨h0, hs, hc, ht⟩ => wpAny_Call_Name_kw (thn ((pe_var (pos := p1) (i := i) hN hv hd hcd).run pinsZ sZ σZ HZ (fun v H1 => v = .ref f ∧ H1 = HZ) IZ ⟨.ref f, hs, rfl, rfl⟩) fun u s2 ⟨v, H1, I1, r1, ev, eH⟩ => ?_)⟩
  subst ev
  rw [eH] at I1
  obtain rfl : u = Value.ref f := r1
  have there : s2.heap.get? f = some (kla_obj "<lambda>" (X.env.qual ++ "<lambda>") ps bd sc (cloFrom X.env.cells sc.names []) pm c' ctv) := I1.base.keep f _ hf hfn hfr (fun z => nomatch (show f ∈ ([] : List Addr) from z))
  refine callWith_F0 ⟨_, _, _, _, there⟩ ?_
  have un : Un (frs X.stack) [] H HZ s.heap s2.heap := I1.base
  obtain ⟨⟨oc, vs, t, hoc, hdc, hvc⟩, _, _⟩ := I1.hok c' _ hc
  have body : codeAny (model X.prog X.w) (X.A.deeper (envOfC qg sg s.heap.objs.size g cdg)) (.call (.ref f) ⟨[], []⟩) (CR (L2N.CX X.prog X.w) (envOfC qg sg s.heap.objs.size g cdg :: X.stack) X.prog X.w HZ s2 Q E) s2 := by
    refine kla_callFunE hr.depth there rfl L.co L.gen rfl ⟨c', oc, vs, t, rfl, hoc, hdc, hvc⟩ ?_
    rw [hbind]
    refine wpAny_pure (wpAny_newFunctionEnv (fun y hy => (L.own y hy).2) (fun y hy => absurd hy (by simp)) (fun h3 hns hsb => ⟨I1.nolimit.fresh _ hsb, ?_⟩) L.kind)
    show codeAny _ _ (.expr bd (LamX.lamEnv X sc s2.heap.objs.size f c')) _ _
    have kp : ∀ b o, s2.heap.get? b = some o → h3.get? b = some o := fun b o e => hsb.extBut b o (Nat.ne_of_lt (Heap.lt_size e)) (Heap.get?_push_of_some _ e)
    have J := (LamX.lam_start2 (E := E) (f := f) (c' := c') (tk := s2.toks + ([] : List (Str × Value)).length) I L I1.env0 hr.hd un hns kp).wish fun e s' => wpAny (model X.prog X.w) ((X.A.deeper (envOfC qg sg s.heap.objs.size g cdg)).deeper (LamX.lamEnv X sc s2.heap.objs.size f c')) (leaving (LamX.lamEnv X sc s2.heap.objs.size f c') e) (fun _ s'' => L2N.CX X.prog X.w (envOfC qg sg s.heap.objs.size g cdg :: X.stack) HZ s2 E e s'') (fun e' s'' => L2N.CX X.prog X.w (envOfC qg sg s.heap.objs.size g cdg :: X.stack) HZ s2 E e' s'') s'
    refine kla_codeExpr (wpAny_mono ((hbody _ _ s2 HZ (hr.deeper _)).run [] _ _ HZ Q J ht) (fun v s' hq => ?_) fun e s' hq => hq)
    obtain ⟨w', H', J', rv, q⟩ := hq
    exact ⟨w', H', J'.os, J'.bare, J'.base, J'.hok, rv, q⟩
  refine wpAny_call (codeAny_mono body fun r s' hq => ?_)
  rcases r with e | fl
  · exact tk e s' (L2N.XE.of_call I1 (fun cls d H' z => by rw [h0]; exact hW cls d H' z) hq)
  · cases fl <;> first | exact False.elim hq | exact I1.after hq
end
/-- the def that calls what it got, at level k + 1; TT: what it makes of the lambda's reading -/
def GivesN (X : Cx) (k : Nat) (Ng : List Str) (x : Str) (sg : Scope) (g : Addr) (cdg : Value) (bg : List Stmt) (a : Str) (q : Str) (TT : (XK → Hp → VK → Prop) → Hp → VK → Prop) : Prop :=
  ∀ (f c' : Addr) (s : Shared) (H : Hp) (Q : VK) (tl : XK → Hp → VK → Prop), Room (k + 1) (X.A.deeper (envOfC x sg s.heap.objs.size g cdg)) →
    (∀ (W : WX) (pn : List (Addr × Obj)) (xe : Value → Shared → Prop) (E : XK) (σ0 : L2.St) (p1 p2 : Pos), L2N.Takes ((cxOf C8.CX0 X.prog X.w X.K X.mg X.base Ng x sg g cdg X.A X.stack s H C8.E0).tr pn xe) W → (∀ cls d H', E cls d H' → W cls d σ0 H') →
      PE ((cxOf C8.CX0 X.prog X.w X.K X.mg X.base Ng x sg g cdg X.A X.stack s H C8.E0).tr pn xe) (.Call (.Name a p1) [] [] p2) (fun σZ HZ Q => σZ = σ0 ∧ σZ[0]? = some (some (.ref f)) ∧ HZ c' = some (LamX.CodeO c' q) ∧ tl E HZ Q)) →
    H c' = some (LamX.CodeO c' q) → TT tl H Q →
    ∃ t, PSs (cxOf C8.CX0 X.prog X.w X.K X.mg X.base Ng x sg g cdg X.A X.stack s H C8.E0).nox bg t ∧ t { nx := fun _ H' => Q .non H', rt := Q } (L2.start Ng [.ref f]) H
def tLamN (T : List (Addr × Str)) (TT : (XK → Hp → VK → Prop) → Hp → VK → Prop) (t : XK → TE) : TE := fun σ H Q => Tabs T H ∧ ∀ H1, SameT T H H1 → Tabs T H1 → TT (fun E H' Q' => t E σ H' Q') H1 Q
theorem pe_lamN {X : Cx} {T : List (Addr × Str)} {TT : (XK → Hp → VK → Prop) → Hp → VK → Prop} {x a : Str} {g c P : Addr} {k : Nat} {pg : Arguments} {bg : List Stmt} {sg : Scope} {dV kV doc pm cdv ct oc : Value} {an od : Option Addr} {osl : Array (Option Value)} {Ng : List Str}
    {ps : Arguments} {bd : Expr} {sc : Scope} {t : XK → TE} {p lpos pos : Pos} (hg : Gl X x) (hm : X.mg x = some (.ref g)) (hk : PySem.W.keepIn X.K (.ref g) = true)
    (lk : X.K.lookup g = some ⟨oc, od, .func (PySem.W.fnOf x x pg bg sg dV kV doc pm an cdv ct), osl⟩) (hcg : PySem.W.codeIn X.K cdv x = true) (hb : L2.Binds X.K (PySem.W.fnOf x x pg bg sg dV kV doc pm an cdv ct) [a] []) (Sg : FnScope Ng [a] sg) (hNg : Ng[0]? = some a) (hva : Vis sg a)
    (hG : GivesN X k Ng x sg g cdv bg a (X.env.qual ++ "<lambda>") TT)
    (TB : LamX.TabB X.base X.mg c P) (hcode : X.env.code = .ref c) (hmT : (P, X.env.qual ++ "<lambda>") ∈ T) (hu : ∀ p ∈ T, p.1 = P → p.2 = X.env.qual ++ "<lambda>") (hr : Room (k + 2) X.A) (L : LamX.LamS X.env.scope sc) (hdef : defaultsOf ps X.env = ([], []))
    (hbind : ∀ (q : Str) (cl : List (Str × Addr)) (pm cv ctv : Value), bindArgs (PySem.W.kla_fn "<lambda>" q ps bd sc cl pm cv ctv) ⟨[], []⟩ = pure [])
    (hbody : ∀ (A : Around) (outer : List PySem.Env) (s : Shared) (H : Hp) (E : XK) (f c' : Addr), Room k (A.deeper (LamX.lamEnv X sc s.heap.objs.size f c')) → PE (lamN X A outer s H E sc f c') bd (t E))
    (hdb : (x == ("__debug__" : Str)) = false := by decide) (hd : (a == ("__debug__" : Str)) = false := by decide) (hcd : (a == ("__classdict__" : Str)) = false := by decide) :
    PE X (.Call (.Name x p) [.Lambda ps bd sc lpos] [] pos) (tLamN T TT t) := by
  refine ⟨fun pins s σ H Q I ⟨hT, h⟩ => wpAny_Call_Name_kw (ld_glob I hg hm ?_ hdb)⟩
  refine callWith_K (h₀ := X.base) I.ok.mod.kin hk ?_ (by rfl) (by rfl)
  show wpAny _ _ (spliced ((false, eval (.Lambda ps bd sc lpos) X.env) :: backTo pos (starEach [] X.env))) _ _ s
  refine Calls.spliced_cons (lam_new I TB hcode hmT hu hT hdef (L.has I.ok) fun f c' pm' ctv H1 s' I1 eN T1 hf hfn hfr hco => Calls.spliced_nil ⟨I1.kIn, ?_⟩)
  have run : codeAny (model X.prog X.w) X.A (.call (.ref g) ⟨[.ref f], []⟩) (CR C8.CX0 X.stack X.prog X.w H1 s' Q C8.E0) s' := by
    refine LamX.run_ofS (N := Ng) (ps := [a]) (us := [.ref f]) (vs := [.ref f]) lk hcg Sg hr I1.env0 (hb s' [.ref f] I1.kIn rfl) (.cons rfl .nil) rfl fun hr' => ?_
    obtain ⟨t', ht', hq'⟩ := hG f c' s' H1 Q (fun E H' Q' => t E σ H' Q') hr' (fun W pn xe E σ0 p1 p2 tk hW => pe_actN (i := 0) I1 L hf hfn hfr (hbind _ _ _ _ _) tk hW hr' (fun A outer s H hr2 => hbody A outer s H E f c' hr2) hNg hva hd hcd) hco (h H1 eN T1)
    exact ⟨t', ht'.nox, hq'⟩
  refine wpAny_call (codeAny_mono run fun r s2 hq => ?_)
  rcases r with e | fl
  · exact (show False from hq).elim
  · cases fl <;> first | exact False.elim hq | exact I1.after hq
/-! ### the def that tells how a lambda ended -/
/-- the pair's end as a tree; sel1, sel2: which classes the two clauses take; m: the error's field -/
def ocD (sel1 sel2 : Str → Bool) (m : Exc → Res D) (x : Exc) : Res D := match (x.ns.zip x.l).lookup ("tag" : Str) with
  | none => .stuck
  | some t => if sel1 x.cls = true then (m x).bind fun f => .ok (.tup [.non, t, f]) else if sel2 x.cls = true then .ok (.tup [.non, t, .non]) else .stuck
def TTo (g : G) (oc : Exc → Res D) : (XK → Hp → VK → Prop) → Hp → VK → Prop := fun tl H Q => Tabs g.tb H ∧ ∀ (HZ : Hp) (E' : XK) (Q' : VK), Same H HZ →
  (∀ cls d H1, (∃ x A1, RepX g H1 A1 x cls d ∧ Tabs g.tb H1 ∧ (∀ a, A1 a → ∀ p ∈ g.tb, p.1 ≠ a) ∧ OutD g H1 A1 E0 (oc x) Q) → E' cls d H1) → (∀ v H1, (∀ t, H1 t = none → Q (.ref t) (upd H1 t (.tup [v, .str "", .non]))) → Q' v H1) → tl E' HZ Q'
abbrev tS1 (K : PySem.W.Frag) : TS := tAsg (tTup (tCons (tC .non) (tCons (tC (.str "")) (tCons (tC .non) tNil)))) (gTup K 3 (gCons (gName 1) (gCons (gName 2) (gCons (gName 3) gNil))))
abbrev tS3 : TS := tRet (tTup (tCons (tVar 1) (tCons (tVar 2) (tCons (tVar 3) tNil))))
def tC1 (g : G) (m : Exc → Res D) (a : Addr) (cls : Value) (d : Option Addr) : TS := fun D σ H => ∀ oe, L2N.Zn cls d oe → (∃ us, oe.data = .fields us) →
  tPar 2 3 (tCons (tXp g.K (a, oe) "tag" (tVar 4)) (tCons (fun σ H Q => tCons (tVar 4) tNil σ H fun vs H1 => spE g m (a, oe) vs H1 Q E0) tNil)) D σ H
def tC2 (K : PySem.W.Frag) (a : Addr) (cls : Value) (d : Option Addr) : TS := fun D σ H => ∀ oe, L2N.Zn cls d oe → (∃ us, oe.data = .fields us) → tAsg (tXp K (a, oe) "tag" (tVar 4)) (gName 2) D σ H
/-- try: answer = ask() -/
def tTry (f c' : Addr) (q : Str) (tl : XK → Hp → VK → Prop) (W : WX) : TS := fun D σ H => ∃ (E : XK), (∀ cls d H', E cls d H' → W cls d σ H') ∧ σ[0]? = some (some (.ref f)) ∧ H c' = some (LamX.CodeO c' q) ∧ tl E H fun v H1 => D.nx (σ.set 1 (some v)) H1
theorem repx_keep {g : G} {H1 H2 : Hp} {A1 : Addr → Prop} (t : Tabs g.tb H1) (hA : ∀ a, A1 a → ∀ p ∈ g.tb, p.1 ≠ a) (s : SameT g.tb H1 H2) : Keep A1 H1 H2 := by
  have nt : ∀ a o, H1 a = some o → (∀ ps, o ≠ .tbl ps) → ∀ p ∈ g.tb, p.1 ≠ a := fun a o h n p hp z => by
    obtain ⟨ps, e, _⟩ := t p hp
    rw [z, h] at e; cases e
    exact n ps rfl
  refine ⟨fun a xs h => ?_, fun a o ha h => s a o h (hA a ha)⟩
  rcases h with h | ⟨o, h⟩
  · exact .inl (s _ _ h (nt _ _ h fun ps z => by cases z))
  · exact .inr ⟨o, s _ _ h (nt _ _ h fun ps z => by cases z)⟩
theorem outc_reads {g : G} {m : Exc → Res D} {sel1 sel2 : Str → Bool} {l1 l2 : List Value} {f c' : Addr} {q : Str} {tl : XK → Hp → VK → Prop} {H : Hp} {Q : VK} (h1 : ∀ c Ca, g.cm c = some Ca → exmAny g.K (.ref Ca) l1 = some (sel1 c)) (h2 : ∀ c Ca, g.cm c = some Ca → exmAny g.K (.ref Ca) l2 = some (sel2 c))
    (hc : H c' = some (LamX.CodeO c' q)) (h : TTo g (ocD sel1 sel2 m) tl H Q) :
    tSeq (tS1 g.K) (tSeq (fun D σ H => tTry f c' q tl (wCl g.K (fun _ _ _ _ => False) D [⟨l1, 4, tC1 g m⟩, ⟨l2, 4, tC2 g.K⟩]) D σ H) tS3) { nx := fun _ H' => Q .non H', rt := Q } (L2.start ["_law_ask", "_law_answer", "_law_tag", "_law_field", "_law_e"] [.ref f]) H := by
  obtain ⟨tt, h⟩ := h
  refine ⟨by show 3 ≤ sizeLine; decide, fun p np => ⟨p, _, rfl, .inl (.inl upd_same), rfl, _, _, rfl, _, _, rfl, _, _, rfl, rfl, ?_⟩⟩
  have s0 : Same H (upd H p (.tup [.non, .str "", .non])) := fun a o z => by rw [upd_ne (ne_of_none z np)]; exact z
  refine ⟨_, ?_, rfl, s0 _ _ hc, h _ (fun cls d H1 => ∃ x A1, RepX g H1 A1 x cls d ∧ Tabs g.tb H1 ∧ (∀ a, A1 a → ∀ p ∈ g.tb, p.1 ≠ a) ∧ OutD g H1 A1 E0 (ocD sel1 sel2 m x) Q) _ s0 (fun _ _ _ z => z) fun v H1 hq => ?_⟩
  rotate_left
  · exact ⟨v, rfl, .str "", rfl, .non, rfl, by show 3 ≤ sizeLine; decide, fun t nt => hq t nt⟩
  -- an exception
  rintro cls d H1 ⟨x, A1, ⟨Ca, dd, vs, ⟨hcm, hxf⟩, rfl, rfl, hd, hlen, hl⟩, t1, hA, o⟩
  have fin : ∀ {H2 : Hp} {tv fv : V} {td fd : D}, SameT g.tb H1 H2 → Tabs g.tb H2 → Rep g H1 A1 td tv → Rep g H2 (fun a => A1 a ∨ H1 a = none) fd fv → (∀ H3 v, SameT g.tb H1 H3 → Tabs g.tb H3 → Rep g H3 (fun a => A1 a ∨ H1 a = none) (.tup [.non, td, fd]) v → Q v H3) →
      ∀ t, H2 t = none → Q (.ref t) (upd H2 t (.tup [.non, tv, fv])) := fun {H2 tv fv td fd} s2 t2 r1 r2 hq t nt => by
    have s3 : Same H2 (upd H2 t (.tup [.non, tv, fv])) := fun a o z => by rw [upd_ne (ne_of_none z nt)]; exact z
    refine hq _ _ (fun a o e n => s3 _ _ (s2 a o e n)) (t2.ext s3) (.tup_ (.inl (.inl upd_same)) (.cons .non_ (.cons ?_ (.cons ?_ .nil))))
    · exact (r1.mono (repx_keep t1 hA s2) fun a q _ => .inl q).mono (.same s3) fun a q _ => q
    · exact r2.mono (.same s3) fun a q _ => q
  have pin : ∀ (a : Addr) (oe : Obj), L2N.Zn (.ref Ca) (some dd) oe → (∃ us, oe.data = .fields us) → ExAt g H1 A1 (a, oe) x := fun a oe hz hf => ⟨Ca, dd, vs, hz.zc, hf, hxf, hd, hlen, hl⟩
  unfold ocD at o
  cases ht : (x.ns.zip x.l).lookup ("tag" : Str) with
  | none => rw [ht] at o; exact o.elim
  | some td =>
  rw [ht] at o
  obtain ⟨tv, q1, q2, q3⟩ := zip_lookup hl ht
  have rd : ∀ (a : Addr) (oe : Obj) (σ : L2.St) (Q' : VK), L2N.Zn (.ref Ca) (some dd) oe → (∃ us, oe.data = .fields us) → σ[4]? = some (some (.ref a)) → Q' tv H1 → tXp g.K (a, oe) "tag" (tVar 4) σ H1 Q' := fun a oe σ Q' hz hf h4 hq => ⟨.ref a, h4, rfl, Ca, dd, _, tv, hz.zc, hf, hxf.1, hxf.2 _ q3, hd, q1, hq⟩
  refine ⟨sel1 x.cls, h1 _ _ hcm, fun e1 a na oe hz hf => ?_, fun e1 => ⟨sel2 x.cls, h2 _ _ hcm, fun e2 a na oe hz hf => ?_, fun e2 => ?_⟩⟩
  · simp only [e1, if_true] at o
    unfold tPar tCons
    refine rd a oe _ _ hz hf ?_ ?_
    · rfl
    refine ⟨.ref a, rfl, A1, x, rfl, pin a oe hz hf, t1, hA, ?_⟩
    cases hm : m x with
    | err y => rw [hm] at o; exact fun _ _ _ s t r => o _ _ _ s t r
    | stuck => rw [hm] at o; exact o.elim
    | ok fd =>
      rw [hm] at o
      intro H2 fv s2 t2 rf
      refine ⟨tv, fv, rfl, ?_⟩
      exact ⟨.non, rfl, tv, rfl, fv, rfl, by show 3 ≤ sizeLine; decide, fun t nt => fin s2 t2 q2 rf o t nt⟩
  · simp only [e1, e2, Bool.false_eq_true, if_false, if_true] at o
    unfold tAsg
    refine rd a oe _ _ hz hf ?_ ?_
    · rfl
    exact ⟨.non, rfl, tv, rfl, .non, rfl, by show 3 ≤ sizeLine; decide, fun t nt => fin (fd := .non) (fun _ _ e _ => e) t1 q2 .non_ o t nt⟩
  · simp only [e1, e2, Bool.false_eq_true, if_false] at o
    exact o.elim
/-! ### over trees -/
def lamE (e : En) : En := e.map fun s => match s with
  | .sh d => .sh d
  | _ => .un
def eOutc (fb : ME) (oc : Exc → Res D) : ME := fun e g => match fb (lamE e) g0 with
  | .ok p => .ok (.tup [p.1, .str "", .non], g)
  | .err x => match oc x with
    | .ok d => .ok (d, g)
    | _ => .stuck
  | .stuck => .stuck
abbrev lamC (C : Ctx) (A : Around) (outer : List PySem.Env) (s : Shared) (H : Hp) (E : XK) (sc : Scope) (f c' : Addr) (H0 : Hp) (A0 : Addr → Prop) : Ctx :=
  { X := lamN C.X A outer s H E sc f c', cm := C.cm, tb := C.tb, W := fun c dd _ H' => E c dd H', H0 := H0, A := A0, rg := none, exc := none }
theorem lam_tk {X : Cx} {A : Around} {outer : List PySem.Env} {s : Shared} {H : Hp} {E : XK} {sc : Scope} {f c' : Addr} : L2N.Takes (lamN X A outer s H E sc f c') (fun c dd _ H' => E c dd H') := L2N.takes_of rfl rfl rfl rfl
/-- the lambda's context, whose body it is left out -/
abbrev lamO (C : Ctx) (E : XK) (H0 : Hp) (A0 : Addr → Prop) : Ctx := { C with W := fun c dd _ H' => E c dd H', H0 := H0, A := A0, rg := none, exc := none, me := none }
def tLamB (C : Ctx) (fb : ME) (E : XK) : TE := fun σ H Q => ∃ H0 A0, tD (lamO C E H0 A0) fb σ H Q
section
variable {C : Ctx} {fb : ME} {oc : Exc → Res D}
theorem SR.lam {own : Own} {F H : Hp} {σ : L2.St} {e : En} {g : Rng} {E : XK} (S : SR C own F H σ e g) : SR (lamO C E H (C.Al own)) (fun _ => none) (fun _ => none) H σ (lamE e) g0 := by
  have io : ∀ a, (lamO C E H (C.Al own)).io a → ∃ p ∈ C.tb, p.1 = a := fun a h => h.elim (fun ⟨c, z⟩ => by cases z) id
  have at0 : ∀ a, (lamO C E H (C.Al own)).io a → ∃ o, H a = some o ∧ MutO o := fun a h => by
    obtain ⟨p, hp, rfl⟩ := io a h
    exact S.tb.at_ hp
  refine ⟨by unfold lamE; rw [List.length_map]; exact S.len, fun i s hs => ?_, fun i p h => ?_, fun i p h => ?_, fun i j p h => ?_, ⟨0, fun _ _ => rfl⟩, fun a o h _ => h, fun a o h => ?_, at0, S.tb, fun a h => ?_, fun r c h => ?_⟩
  · unfold lamE at hs
    rw [List.getElem?_map] at hs
    cases q : e[i]? with
    | none => rw [q] at hs; cases hs
    | some s0 =>
      rw [q] at hs
      cases s0 <;> cases hs <;> first | trivial | skip
      obtain ⟨v, h1, h2⟩ := S.sl i _ q
      refine ⟨v, h1, h2.mono (.same fun _ _ z => z) fun a z _ => ⟨.inl z, fun j hj => (by cases hj), fun hi => z.2.2 (.inr (io a hi))⟩⟩
  · cases h
  · cases h
  · cases h
  · cases h
  · obtain ⟨o, q, _⟩ := at0 a h
    show H a ≠ none
    rw [q]; exact fun z => nomatch z
  · cases h
theorem outc_tree {own : Own} {F H : Hp} {σ : L2.St} {e : En} {g : Rng} {Q : VK} (S : SR C own F H σ e g) (o : OutE C own F σ e H (eOutc fb oc e g) Q) : tLamN C.tb (TTo C.g oc) (tLamB C fb) σ H Q := by
  refine ⟨S.tb, fun H1 s1 t1 => ⟨t1, fun HZ E' Q' sZ hE hQ => ?_⟩⟩
  have SZ : SR C own F HZ σ e g := ((S.call s1 t1).2).same sZ
  refine ⟨HZ, C.Al own, fun _ => none, fun _ => none, lamE e, g0, SZ.lam, ?_⟩
  have io : ∀ a, (lamO C E' HZ (C.Al own)).io a → ∃ p ∈ C.tb, p.1 = a := fun a h => h.elim (fun ⟨c, z⟩ => by cases z) id
  -- from the lambda's end on
  have far : ∀ {H2 : Hp} {g2 : Rng}, SR (lamO C E' HZ (C.Al own)) (fun _ => none) (fun _ => none) H2 σ (lamE e) g2 → SameT C.tb H H2 := fun {H2 g2} S2 a ob z n => S2.h0 a ob (sZ _ _ (s1 a ob z n)) fun hi => by
    obtain ⟨p, hp, q⟩ := io a hi
    exact n p hp q
  have al : ∀ {a : Addr}, (lamO C E' HZ (C.Al own)).Al (fun _ => none) a → C.Al own a := fun {a} h => h.1.elim id SZ.fresh
  unfold eOutc at o
  show OutE _ _ _ _ _ _ (fb (lamE e) g0) Q'
  cases hf : fb (lamE e) g0 with
  | ok p =>
    obtain ⟨d, g1⟩ := p
    rw [hf] at o
    intro H2 v x2 S2 r2
    refine hQ v H2 fun t nt => ?_
    have s3 : Same H2 (upd H2 t (.tup [v, .str "", .non])) := fun a o z => by rw [upd_ne (ne_of_none z nt)]; exact z
    have s4 : SameT C.tb H (upd H2 t (.tup [v, .str "", .non])) := fun a ob z n => s3 _ _ (far S2 a ob z n)
    have c4 := S.call s4 (S2.tb.ext s3)
    exact o _ _ c4.1 c4.2 (.tup_ (.inl (.inl upd_same)) (.cons ((r2.mono (.same s3) fun a q _ => q).mono (.same fun _ _ z => z) fun a q _ => al q) (.cons (.str_ _) (.cons .non_ .nil))))
  | err x =>
    rw [hf] at o
    intro H2 c dd x2 ⟨g2, S2⟩ r2
    refine hE c dd H2 ⟨x, (lamO C E' HZ (C.Al own)).Al fun _ => none, r2, S2.tb, fun a h p hp z => h.2.2 (.inr ⟨p, hp, z⟩), ?_⟩
    cases ho : oc x with
    | ok d =>
      simp only [ho] at o
      intro H3 v s3 t3 r3
      have s4 : SameT C.tb H H3 := fun a ob z n => s3 _ _ (far S2 a ob z n) n
      have c4 := S.call s4 t3
      exact o _ _ c4.1 c4.2 (r3.mono (.same fun _ _ z => z) fun a q _ => q.elim al fun n => by
        refine SZ.fresh ?_
        cases hz : HZ a with
        | none => rfl
        | some ob =>
          by_cases hi : (lamO C E' HZ (C.Al own)).io a
          · obtain ⟨ob2, q2, _⟩ := S2.io a hi
            rw [n] at q2; cases q2
          · have := S2.h0 a ob hz hi
            rw [n] at this; cases this)
    | err y => simp only [ho] at o; exact o.elim
    | stuck => simp only [ho] at o; exact o.elim
  | stuck => rw [hf] at o; exact o.elim
/-- tell(lambda: body) -/
theorem de_outc {x a : Str} {g c P : Addr} {k : Nat} {pg : Arguments} {bg : List Stmt} {sg : Scope} {gfd : FuncData} {Ng : List Str} {ps : Arguments} {bd : Expr} {sc : Scope} {p lpos pos : Pos} {q : Str} (hm : C.X.mg x = some (.ref g)) (F : FunD C.X.K x x pg bg sg [] [] g gfd)
    (hb : L2.Binds C.X.K gfd [a] []) (Sg : FnScope Ng [a] sg) (hNg : Ng[0]? = some a) (hva : Vis sg a) (hG : ∀ cdv, GivesN C.X k Ng x sg g cdv bg a (C.X.env.qual ++ "<lambda>") (TTo C.g oc))
    (TB : LamX.TabB C.X.base C.X.mg c P) (hcode : C.X.env.code = .ref c) (hq : q = C.X.env.qual ++ "<lambda>") (htb : C.tb = [(P, q)]) (hr : Room (k + 2) C.X.A)
    (hfb : ∀ (A : Around) (outer : List PySem.Env) (s : Shared) (H : Hp) (E : XK) (f c' : Addr) (H0 : Hp) (A0 : Addr → Prop), Room k (A.deeper (LamX.lamEnv C.X sc s.heap.objs.size f c')) → DE (lamC C A outer s H E sc f c' H0 A0) bd fb)
    (L : LamX.LamS C.X.env.scope sc) (hg : Gl C.X x := by rfl) (hdef : defaultsOf ps C.X.env = ([], []) := by rfl)
    (hbind : ∀ (q : Str) (cl : List (Str × Addr)) (pm cv ctv : Value), bindArgs (PySem.W.kla_fn "<lambda>" q ps bd sc cl pm cv ctv) ⟨[], []⟩ = pure [] := by intros; rfl)
    (hdb : (x == ("__debug__" : Str)) = false := by decide) (hd : (a == ("__debug__" : Str)) = false := by decide) (hcd : (a == ("__classdict__" : Str)) = false := by decide) :
    DE C (.Call (.Name x p) [.Lambda ps bd sc lpos] [] pos) (eOutc fb oc) := by
  have kp := F.kp
  obtain ⟨o1, od, dV, kV, doc, pm, an, cdv, ct, osl, rfl, lk, hcg, _, _⟩ := F.ex
  subst hq
  refine pe_imp (pe_lamN (T := C.tb) (TT := TTo C.g oc) (t := tLamB C fb) hg hm kp lk hcg hb Sg hNg hva (hG cdv) TB hcode (by rw [htb]; exact List.mem_singleton.mpr rfl) (fun p hp _ => by rw [htb] at hp; rw [List.mem_singleton.mp hp]) hr L hdef hbind (fun A outer s H E f c' hr2 => ?_) hdb hd hcd) fun σ H Q ⟨own, F, e, g, S, o⟩ => outc_tree S o
  refine ⟨fun pins s2 σ H2 Q I ⟨H0, A0, own, F2, e, g2, S, o⟩ => (hfb A outer s H E f c' H0 A0 hr2).run pins s2 σ H2 Q I ⟨own, F2, e, g2, ⟨S.len, S.sl, S.on, S.ph, S.inj, S.fin, S.h0, S.fr, S.io, S.tb, S.ih, S.rg⟩, ?_⟩⟩
  unfold OutE at o ⊢
  cases hf : fb e g2 with
  | ok p => rw [hf] at o; exact fun H' v x S' r => o H' v x ⟨S'.len, S'.sl, S'.on, S'.ph, S'.inj, S'.fin, S'.h0, S'.fr, S'.io, S'.tb, S'.ih, S'.rg⟩ r
  | err y => rw [hf] at o; exact fun H' c dd x ⟨g', S'⟩ r => o H' c dd x ⟨g', ⟨S'.len, S'.sl, S'.on, S'.ph, S'.inj, S'.fin, S'.h0, S'.fr, S'.io, S'.tb, S'.ih, S'.rg⟩⟩ r
  | stuck => rw [hf] at o; exact o
end
end DL

set_option Elab.async false
set_option linter.all false
set_option maxRecDepth 100000
set_option maxHeartbeats 2000000
/-! DLo: a lambda handed on by a def to the def that tells how it ended. -/
namespace DL
open PySem PySem.Spec PySem.W PyProof.Rows L2 HotX
theorem un_more {fs ex : List Addr} {H H1 H2 : Hp} {h h1 h2 : Heap} {p : Addr} (a : Un fs ex H H1 h h1) (b : Un (p :: fs) ex H1 H2 h1 h2) (hp : h.objs.size ≤ p) : Un fs ex H H2 h h2 where
  keep := fun c ob q n hc hx => b.keep c ob (a.keep c ob q n hc hx) (a.free c ob q n hx) (fun z => (List.mem_cons.mp z).elim (fun e => absurd (Heap.lt_size q) (Nat.not_lt.mpr (e ▸ hp))) hc) hx
  slot := fun c ob q n hc hx => by
    obtain ⟨sl, e1⟩ := a.slot c ob q n hc hx
    obtain ⟨sl', e2⟩ := b.slot c _ e1 (a.free c ob q n hx) (List.mem_cons_of_mem _ hc) hx
    exact ⟨sl', e2⟩
  free := fun c ob q n hx => by
    obtain ⟨o', e1⟩ := a.there c ob q hx
    exact b.free c o' e1 (a.free c ob q n hx) hx
  there := fun c ob q hx => by
    obtain ⟨o', e1⟩ := a.there c ob q hx
    exact b.there c o' e1 hx
  tups := fun c xs q => b.tups c xs (a.tups c xs q)
  frzs := fun c ob xs q => b.frzs c ob xs (a.frzs c ob xs q)
  tbls := fun c ps q => by
    obtain ⟨m1, e1⟩ := a.tbls c ps q
    obtain ⟨m2, e2⟩ := b.tbls c _ e1
    exact ⟨m1 ++ m2, by rw [e2, Array.append_assoc]⟩
section
variable {X : Cx} {pins : List (Addr × Obj)} {σ : L2.St} {H HZ : Hp} {s s1 : Shared}
/-- x(), where x holds the lambda, one def further in -/
theorem pe_actM {CXg : CXT} {Eg : XK} {Ng : List Str} {qg : Str} {sg : Scope} {g f c' p : Addr} {cdg pm ctv : Value} {ps : Arguments} {bd : Expr} {sc : Scope} {k i : Nat} {a : Str} {pn : List (Addr × Obj)} {xe : Value → Shared → Prop} {W : WX} {E : XK} {tb : TE} {p1 p2 : Pos} {σ0 : L2.St}
    {AA : Around} {oo : List PySem.Env} {sM : Shared} {HM : Hp} (uM : Un (frs X.stack) [] H HM s.heap sM.heap) (ho : frs oo = p :: frs X.stack) (hp : s.heap.objs.size ≤ p)
    (I : L2.Inv X pins σ H s) (L : LamX.LamS X.env.scope sc) (hf : s.heap.get? f = some (kla_obj "<lambda>" (X.env.qual ++ "<lambda>") ps bd sc (cloFrom X.env.cells sc.names []) pm c' ctv)) (hfn : H f = none) (hfr : f ∉ frs X.stack)
    (hbind : bindArgs (kla_fn "<lambda>" (X.env.qual ++ "<lambda>") ps bd sc (cloFrom X.env.cells sc.names []) pm (.ref c') ctv) ⟨[], []⟩ = pure [])
    (tk : L2N.Takes ((cxOf CXg X.prog X.w X.K X.mg X.base Ng qg sg g cdg AA oo sM HM Eg).tr pn xe) W) (hW : ∀ cls d H', E cls d H' → W cls d σ0 H') (hr : Room (k + 1) (AA.deeper (envOfC qg sg sM.heap.objs.size g cdg)))
    (hbody : ∀ (A : Around) (outer : List PySem.Env) (s : Shared) (H : Hp), Room k (A.deeper (LamX.lamEnv X sc s.heap.objs.size f c')) → PE (lamN X A outer s H E sc f c') bd tb)
    (hN : Ng[i]? = some a) (hv : Vis sg a) (hd : (a == ("__debug__" : Str)) = false := by decide) (hcd : (a == ("__classdict__" : Str)) = false := by decide) :
    PE ((cxOf CXg X.prog X.w X.K X.mg X.base Ng qg sg g cdg AA oo sM HM Eg).tr pn xe) (.Call (.Name a p1) [] [] p2)
      (fun σZ HZ Q => σZ = σ0 ∧ σZ[i]? = some (some (.ref f)) ∧ HZ c' = some (LamX.CodeO c' (X.env.qual ++ "<lambda>")) ∧ tb σ HZ Q) := by
  refine ⟨fun pinsZ sZ σZ HZ Q IZ ⟨h0, hs, hc, ht⟩ => wpAny_Call_Name_kw (thn ((pe_var (pos := p1) (i := i) hN hv hd hcd).run pinsZ sZ σZ HZ (fun v H1 => v = .ref f ∧ H1 = HZ) IZ ⟨.ref f, hs, rfl, rfl⟩) fun u s2 ⟨v, H1, I1, r1, ev, eH⟩ => ?_)⟩
  subst ev
  rw [eH] at I1
  obtain rfl : u = Value.ref f := r1
  have u1 : Un (frs oo) [] HM HZ sM.heap s2.heap := I1.base
  rw [ho] at u1
  have un : Un (frs X.stack) [] H HZ s.heap s2.heap := un_more uM u1 hp
  have there : s2.heap.get? f = some (kla_obj "<lambda>" (X.env.qual ++ "<lambda>") ps bd sc (cloFrom X.env.cells sc.names []) pm c' ctv) := un.keep f _ hf hfn hfr (fun z => nomatch (show f ∈ ([] : List Addr) from z))
  refine callWith_F0 ⟨_, _, _, _, there⟩ ?_
  obtain ⟨⟨oc, vs, t, hoc, hdc, hvc⟩, _, _⟩ := I1.hok c' _ hc
  have body : codeAny (model X.prog X.w) (AA.deeper (envOfC qg sg sM.heap.objs.size g cdg)) (.call (.ref f) ⟨[], []⟩) (CR (L2N.CX X.prog X.w) (envOfC qg sg sM.heap.objs.size g cdg :: oo) X.prog X.w HZ s2 Q E) s2 := by
    refine kla_callFunE hr.depth there rfl L.co L.gen rfl ⟨c', oc, vs, t, rfl, hoc, hdc, hvc⟩ ?_
    rw [hbind]
    refine wpAny_pure (wpAny_newFunctionEnv (fun y hy => (L.own y hy).2) (fun y hy => absurd hy (by simp)) (fun h3 hns hsb => ⟨I1.nolimit.fresh _ hsb, ?_⟩) L.kind)
    show codeAny _ _ (.expr bd (LamX.lamEnv X sc s2.heap.objs.size f c')) _ _
    have kp : ∀ b o, s2.heap.get? b = some o → h3.get? b = some o := fun b o e => hsb.extBut b o (Nat.ne_of_lt (Heap.lt_size e)) (Heap.get?_push_of_some _ e)
    have J := (LamX.lam_start2 (E := E) (f := f) (c' := c') (tk := s2.toks + ([] : List (Str × Value)).length) I L I1.env0 hr.hd un hns kp).wish fun e s' => wpAny (model X.prog X.w) ((AA.deeper (envOfC qg sg sM.heap.objs.size g cdg)).deeper (LamX.lamEnv X sc s2.heap.objs.size f c')) (leaving (LamX.lamEnv X sc s2.heap.objs.size f c') e) (fun _ s'' => L2N.CX X.prog X.w (envOfC qg sg sM.heap.objs.size g cdg :: oo) HZ s2 E e s'') (fun e' s'' => L2N.CX X.prog X.w (envOfC qg sg sM.heap.objs.size g cdg :: oo) HZ s2 E e' s'') s'
    refine kla_codeExpr (wpAny_mono ((hbody _ _ s2 HZ (hr.deeper _)).run [] _ _ HZ Q J ht) (fun v s' hq => ?_) fun e s' hq => hq)
    obtain ⟨w', H', J', rv, q⟩ := hq
    exact ⟨w', H', J'.os, J'.bare, J'.base, J'.hok, rv, q⟩
  refine wpAny_call (codeAny_mono body fun r s' hq => ?_)
  rcases r with e | fl
  · exact tk e s' (L2N.XE.of_call I1 (fun cls d H' z => by rw [h0]; exact hW cls d H' z) hq)
  · cases fl <;> first | exact False.elim hq | exact I1.after hq
end
def tLamM (K : PySem.W.Frag) (T : List (Addr × Str)) (TT : (XK → Hp → VK → Prop) → Hp → VK → Prop) (t : XK → TE) : TE := fun σ H Q => Tabs T H ∧ ∀ H1, SameT T H H1 → Tabs T H1 → TT (fun E H' Q' => t E σ H' Q') H1 fun v H2 => rSlA K v (some 1) none H2 Q
theorem pe_lamM {X : Cx} {T : List (Addr × Str)} {TT : (XK → Hp → VK → Prop) → Hp → VK → Prop} {x a y b : Str} {g1 g2 c P : Addr} {k : Nat} {pg1 pg2 : Arguments} {bg1 : List Stmt} {sg1 sg2 : Scope} {dV1 kV1 doc1 pm1 cdv1 ct1 oc1 dV2 kV2 doc2 pm2 cdv2 ct2 oc2 : Value} {an1 od1 an2 od2 : Option Addr} {osl1 osl2 : Array (Option Value)} {Ng1 Ng2 : List Str}
    {ps : Arguments} {bd : Expr} {sc : Scope} {t : XK → TE} {p lpos pos q1 q2 q3 q4 q5 q6 q7 : Pos} {kc : Nat} (hg : Gl X x) (hm2 : X.mg x = some (.ref g2)) (hk2 : PySem.W.keepIn X.K (.ref g2) = true)
    (lk2 : X.K.lookup g2 = some ⟨oc2, od2, .func (PySem.W.fnOf x x pg2 [.Return (some (.Subscript (.Call (.Name y q1) [.Name a q2] [] q3) (.Slice (some (.Constant (.int 1) kc q4)) none none q5) q6)) q7] sg2 dV2 kV2 doc2 pm2 an2 cdv2 ct2), osl2⟩) (hcg2 : PySem.W.codeIn X.K cdv2 x = true) (hb2 : L2.Binds X.K (PySem.W.fnOf x x pg2 [.Return (some (.Subscript (.Call (.Name y q1) [.Name a q2] [] q3) (.Slice (some (.Constant (.int 1) kc q4)) none none q5) q6)) q7] sg2 dV2 kV2 doc2 pm2 an2 cdv2 ct2) [a] []) (Sg2 : FnScope Ng2 [a] sg2) (hNg2 : Ng2[0]? = some a) (hva2 : Vis sg2 a)
    (hgy : sg2.names.lookup y = some .globalImplicit) (hm1 : X.mg y = some (.ref g1)) (hk1 : PySem.W.keepIn X.K (.ref g1) = true)
    (lk1 : X.K.lookup g1 = some ⟨oc1, od1, .func (PySem.W.fnOf y y pg1 bg1 sg1 dV1 kV1 doc1 pm1 an1 cdv1 ct1), osl1⟩) (hcg1 : PySem.W.codeIn X.K cdv1 y = true) (hb1 : L2.Binds X.K (PySem.W.fnOf y y pg1 bg1 sg1 dV1 kV1 doc1 pm1 an1 cdv1 ct1) [b] []) (Sg1 : FnScope Ng1 [b] sg1) (hNg1 : Ng1[0]? = some b) (hva1 : Vis sg1 b)
    (hG : ∀ s H, GivesN (cxOf C8.CX0 X.prog X.w X.K X.mg X.base Ng2 x sg2 g2 cdv2 X.A X.stack s H C8.E0) k Ng1 y sg1 g1 cdv1 bg1 b (X.env.qual ++ "<lambda>") TT)
    (TB : LamX.TabB X.base X.mg c P) (hcode : X.env.code = .ref c) (hmT : (P, X.env.qual ++ "<lambda>") ∈ T) (hu : ∀ p ∈ T, p.1 = P → p.2 = X.env.qual ++ "<lambda>") (hr : Room (k + 3) X.A) (L : LamX.LamS X.env.scope sc) (hdef : defaultsOf ps X.env = ([], []))
    (hbind : ∀ (q : Str) (cl : List (Str × Addr)) (pm cv ctv : Value), bindArgs (PySem.W.kla_fn "<lambda>" q ps bd sc cl pm cv ctv) ⟨[], []⟩ = pure [])
    (hbody : ∀ (A : Around) (outer : List PySem.Env) (s : Shared) (H : Hp) (E : XK) (f c' : Addr), Room k (A.deeper (LamX.lamEnv X sc s.heap.objs.size f c')) → PE (lamN X A outer s H E sc f c') bd (t E))
    (hdb : (x == ("__debug__" : Str)) = false := by decide) (hdb1 : (y == ("__debug__" : Str)) = false := by decide) (hd : (a == ("__debug__" : Str)) = false := by decide) (hcd : (a == ("__classdict__" : Str)) = false := by decide) (hd1 : (b == ("__debug__" : Str)) = false := by decide) (hcd1 : (b == ("__classdict__" : Str)) = false := by decide) :
    PE X (.Call (.Name x p) [.Lambda ps bd sc lpos] [] pos) (tLamM X.K T TT t) := by
  refine ⟨fun pins s σ H Q I ⟨hT, h⟩ => wpAny_Call_Name_kw (ld_glob I hg hm2 ?_ hdb)⟩
  refine callWith_K (h₀ := X.base) I.ok.mod.kin hk2 ?_ (by rfl) (by rfl)
  show wpAny _ _ (spliced ((false, eval (.Lambda ps bd sc lpos) X.env) :: backTo pos (starEach [] X.env))) _ _ s
  refine Calls.spliced_cons (lam_new I TB hcode hmT hu hT hdef (L.has I.ok) fun f c' pm' ctv H1 s' I1 eN T1 hf hfn hfr hco => Calls.spliced_nil ⟨I1.kIn, ?_⟩)
  let X2 : Cx := cxOf C8.CX0 X.prog X.w X.K X.mg X.base Ng2 x sg2 g2 cdv2 X.A X.stack s' H1 C8.E0
  have run : codeAny (model X.prog X.w) X.A (.call (.ref g2) ⟨[.ref f], []⟩) (CR C8.CX0 X.stack X.prog X.w H1 s' Q C8.E0) s' := by
    refine LamX.run_ofS (N := Ng2) (ps := [a]) (us := [.ref f]) (vs := [.ref f]) lk2 hcg2 Sg2 hr I1.env0 (hb2 s' [.ref f] I1.kIn rfl) (.cons rfl .nil) rfl fun hr2 => ?_
    -- the call of the inner def
    have inner : PE X2 (.Call (.Name y q1) [.Name a q2] [] q3) (fun σ2 H2 Q2 => σ2[0]? = some (some (.ref f)) ∧ H2 c' = some (LamX.CodeO c' (X.env.qual ++ "<lambda>")) ∧ TT (fun E H' Q' => t E σ H' Q') H2 Q2) := by
      refine ⟨fun pins2 s2 σ2 H2 Q2 I2 ⟨h0, hc2, ht2⟩ => wpAny_Call_Name_kw (ld_glob I2 hgy hm1 ?_ hdb1)⟩
      refine callWith_K (h₀ := X.base) I2.ok.mod.kin hk1 (thn ((pa_cons (pe_var (X := X2) (pos := q2) (i := 0) hNg2 hva2 hd hcd) pa_nil).run q3 pins2 s2 σ2 H2 (fun vs H3 => vs = [.ref f] ∧ H3 = H2) I2 ⟨.ref f, h0, rfl, rfl⟩) fun us s3 ⟨vs, H3, I3, r3, q3'⟩ => ⟨I3.kIn, ?_⟩) (by rfl) (by rfl)
      obtain ⟨rfl, rfl⟩ := q3'
      have run1 : codeAny (model X.prog X.w) X2.A (.call (.ref g1) ⟨us, []⟩) (CR C8.CX0 X2.stack X.prog X.w H3 s3 Q2 C8.E0) s3 := by
        have bb := hb1 s3 us I3.kIn (by rw [List.append_nil, ← r3.length]; rfl)
        rw [List.append_nil] at bb
        refine LamX.run_ofS (N := Ng1) (ps := [b]) (us := us) (vs := [.ref f]) lk1 hcg1 Sg1 hr2 I3.env0 bb r3 rfl fun hr3 => ?_
        obtain ⟨t', ht', hq'⟩ := hG s' H1 f c' s3 H3 Q2 (fun E H' Q' => t E σ H' Q') hr3 (fun W pn xe E σ0 p1 p2 tk hW => pe_actM (X := X) (CXg := C8.CX0) (Eg := C8.E0) (Ng := Ng1) (qg := y) (sg := sg1) (g := g1) (cdg := cdv1) (AA := X2.A) (oo := X2.stack) (sM := s3) (HM := H3) (i := 0) (p := s'.heap.objs.size) (show Un (frs X.stack) [] H1 H3 s'.heap s3.heap from I3.base) rfl (Nat.le_refl _) I1 L hf hfn hfr (hbind _ _ _ _ _) tk hW hr3 (fun A outer s H hr4 => hbody A outer s H E f c' hr4) hNg1 hva1 hd1 hcd1) hc2 ht2
        exact ⟨t', ht'.nox, hq'⟩
      refine wpAny_call (codeAny_mono run1 fun r s4 hq => ?_)
      rcases r with e | fl
      · exact (show False from hq).elim
      · cases fl <;> first | exact False.elim hq | exact I3.after hq
    refine ⟨_, pss_one (ps_ret (pe_slice sl_tupA inner (po_some pe_int) po_none)), ?_⟩
    refine ⟨rfl, hco, ?_⟩
    have h2 := h H1 eN T1
    have e : (fun v H2 => rSlA X.K v (some 1) none H2 Q) = fun v H2 => ∃ i, V.int 1 = V.int i ∧ rSlA X.K v (some i) none H2 Q := by
      funext v H2
      exact propext ⟨fun q => ⟨1, rfl, q⟩, fun ⟨i, e, q⟩ => by cases e; exact q⟩
    rw [e] at h2
    exact h2
  refine wpAny_call (codeAny_mono run fun r s2 hq => ?_)
  rcases r with e | fl
  · exact (show False from hq).elim
  · cases fl <;> first | exact False.elim hq | exact I1.after hq
/-- what is left of three -/
def dTl (x : D) : Res D := match x with
  | .tup [_, b, c] => .ok (.tup [b, c])
  | _ => .stuck
theorem nx_tl (x : D) (z : Exc) : dTl x ≠ .err z := by unfold dTl; split <;> exact fun h => nomatch h
def eErr (fb : ME) (oc : Exc → Res D) : ME := fun e g => (eOutc fb oc e g).bind fun p => pureG (dTl p.1) p.2
section
variable {C : Ctx} {fb : ME} {oc : Exc → Res D}
theorem err_tree {own : Own} {F H : Hp} {σ : L2.St} {e : En} {g : Rng} {Q : VK} (S : SR C own F H σ e g) (o : OutE C own F σ e H (eErr fb oc e g) Q) : tLamM C.X.K C.tb (TTo C.g oc) (tLamB C fb) σ H Q := by
  refine outc_tree (Q := fun v H2 => rSlA C.X.K v (some 1) none H2 Q) S (OutE.bindE o fun d g1 H1 v x1 S1 r1 o1 => ?_)
  have o4 := o1.toV S1 (nx_tl _)
  cases d <;> first | exact o4.elim | skip
  rename_i l
  match l, r1, o4 with
  | [a, b, c], r1, o4 =>
    obtain ⟨p, vs, rfl, h3, h4⟩ := r1.toTup
    refine ⟨p, vs, rfl, h3, fun hc => ?_, fun _ t ht => OutV.newT o4 ht (cut_rep h4 (some 1) none)⟩
    have hl : vs.length = 3 := h4.length.symm
    rw [hl] at hc
    exact absurd hc.1 (by decide)
  | [], _, o4 => exact o4.elim
  | [_], _, o4 => exact o4.elim
  | [_, _], _, o4 => exact o4.elim
  | _ :: _ :: _ :: _ :: _, _, o4 => exact o4.elim
/-- tell(lambda: body), of which the answer is left out -/
theorem de_err {x a y b : Str} {g1 g2 c P : Addr} {k : Nat} {pg1 pg2 : Arguments} {bg1 : List Stmt} {sg1 sg2 : Scope} {fd1 fd2 : FuncData} {Ng1 Ng2 : List Str} {ps : Arguments} {bd : Expr} {sc : Scope} {p lpos pos q1 q2 q3 q4 q5 q6 q7 : Pos} {kc : Nat} {q : Str}
    (hm2 : C.X.mg x = some (.ref g2)) (F2 : FunD C.X.K x x pg2 [.Return (some (.Subscript (.Call (.Name y q1) [.Name a q2] [] q3) (.Slice (some (.Constant (.int 1) kc q4)) none none q5) q6)) q7] sg2 [] [] g2 fd2)
    (hb2 : L2.Binds C.X.K fd2 [a] []) (Sg2 : FnScope Ng2 [a] sg2) (hNg2 : Ng2[0]? = some a) (hva2 : Vis sg2 a) (hgy : sg2.names.lookup y = some .globalImplicit)
    (hm1 : C.X.mg y = some (.ref g1)) (F1 : FunD C.X.K y y pg1 bg1 sg1 [] [] g1 fd1)
    (hb1 : L2.Binds C.X.K fd1 [b] []) (Sg1 : FnScope Ng1 [b] sg1) (hNg1 : Ng1[0]? = some b) (hva1 : Vis sg1 b)
    (hG : ∀ (cdv1 cdv2 : Value) s H, GivesN (cxOf C8.CX0 C.X.prog C.X.w C.X.K C.X.mg C.X.base Ng2 x sg2 g2 cdv2 C.X.A C.X.stack s H C8.E0) k Ng1 y sg1 g1 cdv1 bg1 b (C.X.env.qual ++ "<lambda>") (TTo C.g oc))
    (TB : LamX.TabB C.X.base C.X.mg c P) (hcode : C.X.env.code = .ref c) (hq : q = C.X.env.qual ++ "<lambda>") (htb : C.tb = [(P, q)]) (hr : Room (k + 3) C.X.A)
    (hfb : ∀ (A : Around) (outer : List PySem.Env) (s : Shared) (H : Hp) (E : XK) (f c' : Addr) (H0 : Hp) (A0 : Addr → Prop), Room k (A.deeper (LamX.lamEnv C.X sc s.heap.objs.size f c')) → DE (lamC C A outer s H E sc f c' H0 A0) bd fb)
    (L : LamX.LamS C.X.env.scope sc) (hg : Gl C.X x := by rfl) (hdef : defaultsOf ps C.X.env = ([], []) := by rfl)
    (hbind : ∀ (q : Str) (cl : List (Str × Addr)) (pm cv ctv : Value), bindArgs (PySem.W.kla_fn "<lambda>" q ps bd sc cl pm cv ctv) ⟨[], []⟩ = pure [] := by intros; rfl)
    (hdb : (x == ("__debug__" : Str)) = false := by decide) (hdb1 : (y == ("__debug__" : Str)) = false := by decide) (hd : (a == ("__debug__" : Str)) = false := by decide) (hcd : (a == ("__classdict__" : Str)) = false := by decide) (hd1 : (b == ("__debug__" : Str)) = false := by decide) (hcd1 : (b == ("__classdict__" : Str)) = false := by decide) :
    DE C (.Call (.Name x p) [.Lambda ps bd sc lpos] [] pos) (eErr fb oc) := by
  have kp1 := F1.kp
  have kp2 := F2.kp
  obtain ⟨oc1, od1, dV1, kV1, doc1, pm1, an1, cdv1, ct1, osl1, rfl, lk1, hcg1, _, _⟩ := F1.ex
  obtain ⟨oc2, od2, dV2, kV2, doc2, pm2, an2, cdv2, ct2, osl2, rfl, lk2, hcg2, _, _⟩ := F2.ex
  subst hq
  refine pe_imp (pe_lamM (T := C.tb) (TT := TTo C.g oc) (t := tLamB C fb) hg hm2 kp2 lk2 hcg2 hb2 Sg2 hNg2 hva2 hgy hm1 kp1 lk1 hcg1 hb1 Sg1 hNg1 hva1 (hG cdv1 cdv2) TB hcode (by rw [htb]; exact List.mem_singleton.mpr rfl) (fun p hp _ => by rw [htb] at hp; rw [List.mem_singleton.mp hp]) hr L hdef hbind (fun A outer s H E f c' hr2 => ?_) hdb hdb1 hd hcd hd1 hcd1) fun σ H Q ⟨own, F, e, g, S, o⟩ => err_tree S o
  refine ⟨fun pins s2 σ H2 Q I ⟨H0, A0, own, F2, e, g2, S, o⟩ => (hfb A outer s H E f c' H0 A0 hr2).run pins s2 σ H2 Q I ⟨own, F2, e, g2, ⟨S.len, S.sl, S.on, S.ph, S.inj, S.fin, S.h0, S.fr, S.io, S.tb, S.ih, S.rg⟩, ?_⟩⟩
  unfold OutE at o ⊢
  cases hf : fb e g2 with
  | ok p => rw [hf] at o; exact fun H' v x S' r => o H' v x ⟨S'.len, S'.sl, S'.on, S'.ph, S'.inj, S'.fin, S'.h0, S'.fr, S'.io, S'.tb, S'.ih, S'.rg⟩ r
  | err y => rw [hf] at o; exact fun H' c dd x ⟨g', S'⟩ r => o H' c dd x ⟨g', ⟨S'.len, S'.sl, S'.on, S'.ph, S'.inj, S'.fin, S'.h0, S'.fr, S'.io, S'.tb, S'.ih, S'.rg⟩⟩ r
  | stuck => rw [hf] at o; exact o
end
end DL

set_option Elab.async false
set_option linter.all false
set_option maxRecDepth 100000
set_option maxHeartbeats 2000000
/-! DLr: a lambda with one parameter, which has a default that is a whole number and is not looked at. -/
namespace DL
open PySem PySem.Spec PySem.W PyProof.Rows L2 HotX
/-- one parameter, no name of its own otherwise -/
structure LamD (sc scope : Scope) (N : List Str) (y : Str) : Prop where
  kind : scope.kind = .function
  co : scope.isCoroutine = false
  gen : scope.isGenerator = false
  own : ∀ z ∈ scope.names, z.2 ≠ .cell ∧ (z.2 = .local → z.1 ∉ N)
  free : ∀ z ∈ scope.names, z.2 = .free → sc.names.lookup z.1 = some .cell ∨ sc.names.lookup z.1 = some .free
  par : scope.names.lookup y = some .local
def lamDB (sc scope : Scope) (N : List Str) (y : Str) : Bool :=
  decide (scope.kind = .function) && !scope.isCoroutine && !scope.isGenerator && (scope.names.all fun z => !decide (z.2 = .cell) && (!decide (z.2 = .local) || !decide (z.1 ∈ N)) && (!decide (z.2 = .free) || decide (sc.names.lookup z.1 = some .cell) || decide (sc.names.lookup z.1 = some .free))) && decide (scope.names.lookup y = some .local)
theorem lamD_by {sc scope : Scope} {N : List Str} {y : Str} (h : lamDB sc scope N y = true) : LamD sc scope N y := by
  unfold lamDB at h
  simp only [Bool.and_eq_true, Bool.or_eq_true, Bool.not_eq_true', decide_eq_true_eq, decide_eq_false_iff_not, List.all_eq_true] at h
  obtain ⟨⟨⟨⟨h1, h2⟩, h3⟩, h4⟩, h5⟩ := h
  refine ⟨h1, h2, h3, fun z hz => ⟨(h4 z hz).1.1, fun e => ?_⟩, fun z hz e => ?_, h5⟩
  · rcases (h4 z hz).1.2 with k | k
    · exact absurd e k
    · exact k
  · rcases (h4 z hz).2 with (k | k) | k
    · exact absurd e k
    · exact .inl k
    · exact .inr k
section
variable {X : Cx} {pins : List (Addr × Obj)} {σ : L2.St} {H HZ : Hp} {s s1 : Shared}
theorem LamD.has {X : Cx} {scope : Scope} {N : List Str} {y : Str} (L : LamD X.env.scope scope N y) (ok : X.Ok) : ∀ z ∈ scope.names, z.2 = .free → ∃ c, X.env.cells.lookup z.1 = some c := fun z hz e => by
  rcases L.free z hz e with k | k
  · exact ok.has _ (.inl k)
  · exact ok.has _ (.inr k)
/-- what the lambda's body starts with: the captured names read as in the maker -/
theorem lam_startD {A : Around} {outer : List PySem.Env} {E : XK} {sc : Scope} {f c' : Addr} {hB : Heap} {tk : Nat} {y0 : Str} {mm : Str → Option Value} (I : L2.Inv X pins σ H s) (L : LamD X.env.scope sc X.N y0) (e0 : Env0 X.prog X.w X.K X.mg X.base A outer s1 HZ) (hd : A.handled = none)
    (un : Un (frs X.stack) [] H HZ s.heap s1.heap) (hns : hB.Ns s1.heap.objs.size mm) (kp : ∀ b o, s1.heap.get? b = some o → hB.get? b = some o) :
    L2.Inv (LamX.lamCx X A outer s1 HZ E sc f c') [] σ HZ { s1 with heap := hB, toks := tk } := by
  -- the lambda's cells are the maker's
  have up : ∀ x c, (cloFrom X.env.cells sc.names []).lookup x = some c → X.env.cells.lookup x = some c := by
    intro x c h
    rcases cloFrom_mem (PySem.mem_of_lookup h) with bad | ⟨fr, ec⟩
    · exact absurd bad (by simp)
    · obtain ⟨c0, h0⟩ := L.has I.ok (x, .free) fr rfl
      have h0' : X.env.cells.lookup x = some c0 := h0
      have : c = c0 := by rw [ec, h0'] <;> rfl
      rw [this]; exact h0'
  have down : ∀ x, sc.names.lookup x = some .free → ∃ c, (cloFrom X.env.cells sc.names []).lookup x = some c := fun x h =>
    mem_lookup (cloFrom_has (cells := X.env.cells) (acc := []) (PySem.mem_of_lookup h))
  have nocell : ∀ x, sc.names.lookup x = some .cell → False := fun x h => (L.own _ (PySem.mem_of_lookup h)).1 rfl
  have seen : ∀ (c : Addr) (v : Option Value), H c = none → s.heap.IsCell c v → hB.IsCell c v := by
    intro c v n ⟨o, ho, e⟩
    obtain ⟨sl, h⟩ := un.any ho n (by simp)
    exact ⟨_, kp _ _ h, e⟩
  have nil : ∀ b : Addr, b ∈ (LamX.lamCx X A outer s1 HZ E sc f c').ex → False := fun b h => nomatch (show b ∈ ([] : List Addr) from h)
  refine { ok := { mod := e0.mod, kind := L.kind, glob := rfl, blt := rfl, above := Nat.le_refl _, inj := fun x y c h1 h2 => I.ok.inj x y c (up x c h1) (up y c h2), has := ?has, cab := fun x c h => (nomatch (show false = true from h)), hd := fun _ => hd, frames := Around.frames_deeper e0.frames, stk := .inr ⟨rfl, rfl⟩, exf := fun b h => (nil b h).elim, bs := e0.bs, bsz := e0.bsz, noex := fun b _ _ h => nil b h, exfs := fun b h => (nil b h).elim, funs := e0.funs, frf := e0.frf }, os := rfl, bare := e0.bare, base := Un.kept kp, loc := ⟨mm, hns, ?loc⟩, cell := ?cell, free := e0.hok.fresh (Nat.le_refl _), freeC := ?freeC, pin := fun p h => (nomatch (show p ∈ ([] : List (Addr × Obj)) from h)), hok := e0.hok.kept kp, len := I.len }
  case has =>
    intro x h
    have h' : sc.names.lookup x = some .cell ∨ sc.names.lookup x = some .free := h
    exact h'.elim (fun k => (nocell x k).elim) (down x)
  case loc =>
    intro i x v hi hv vis
    have vis' : Vis sc x := vis
    rcases vis' with k | k | k
    · exact absurd (List.mem_of_getElem? hi) ((L.own _ (PySem.mem_of_lookup k)).2 rfl)
    · exact (nocell x k).elim
    · obtain ⟨m0, _, rd⟩ := I.loc
      have up2 := L.free _ (PySem.mem_of_lookup k) rfl
      obtain ⟨u, ru, lk⟩ := rd i x v hi hv (up2.elim (fun z => .inr (.inl z)) fun z => .inr (.inr z))
      obtain ⟨c, hc⟩ := down x k
      refine ⟨u, ru, .inr ⟨.inr k, c, hc, ?_⟩⟩
      rcases lk with ⟨kl, _⟩ | ⟨_, c3, e3, ic⟩
      · have kl' : X.env.scope.names.lookup x = some .local := kl
        rcases up2 with z | z <;> exact absurd (kl'.symm.trans z) (by simp)
      · rw [up x c hc] at e3
        cases e3
        exact seen _ _ (I.freeC x c (up x c hc)) ic
  case cell =>
    intro x c h
    obtain ⟨v, ic⟩ := I.cell x c (up x c h)
    exact ⟨v, seen c v (I.freeC x c (up x c h)) ic⟩
  case freeC =>
    intro x c h
    obtain ⟨v, o, ho, _⟩ := I.cell x c (up x c h)
    exact un.free c o ho (I.freeC x c (up x c h)) (by simp)
theorem lam_newD {T : List (Addr × Str)} {c P : Addr} {ps : Arguments} {bd : Expr} {sc : Scope} {pos : Pos} {E : Value → Shared → Prop} {Q : Value → Shared → Prop} (I : L2.Inv X pins σ H s) (TB : LamX.TabB X.base X.mg c P) (hcode : X.env.code = .ref c)
    (hm : (P, X.env.qual ++ "<lambda>") ∈ T) (hu : ∀ p ∈ T, p.1 = P → p.2 = X.env.qual ++ "<lambda>") (hT : Tabs T H) {zi : Int} {zk : Nat} {zp : Pos} (hd : ps.defaults = [.Constant (.int zi) zk zp]) (hk0 : ps.kw_defaults = []) (hfree : ∀ y ∈ sc.names, y.2 = .free → ∃ c, X.env.cells.lookup y.1 = some c)
    (k : ∀ (f c' dt : Addr) (pm ctv doc v : Value) (H1 : Hp) (s' : Shared), L2.Inv X pins σ H1 s' → SameT T H H1 → Tabs T H1 →
      s'.heap.get? f = some (kdv_obj "<lambda>" (X.env.qual ++ "<lambda>") ps (.expr bd) sc (cloFrom X.env.cells sc.names []) (.ref dt) doc pm c' ctv) → H1 f = none → f ∉ frs X.stack → s'.heap.get? dt = some (kdv_tup [v]) → H1 dt = none → dt ∉ frs X.stack → H1 c' = some (LamX.CodeO c' (X.env.qual ++ "<lambda>")) → Q (.ref f) s') :
    wpAny (model X.prog X.w) X.A (eval (.Lambda ps bd sc pos) X.env) Q E s := by
  obtain ⟨tt, atP, trip, among⟩ := hT _ hm
  have bmP : s.heap.BuiltinsAt X.mg P := TB.bm.keeps I.bk
  have heapP : s.heap.get? P = some { cls := .none, data := .fields tt } := I.hok P _ atP
  have ltP := Heap.lt_size heapP
  have apart : ∀ f, s.heap.objs.size ≤ f → f ∉ frs X.stack := fun f hf z => (List.mem_cons.mp (I.stkSub _ z)).elim (fun e => absurd (e ▸ I.lt) (Nat.not_lt.mpr hf)) (I.nofs hf)
  refine kdv_lam (by rw [hd]; rfl) hk0 ?_
  rw [hd]
  refine kdv_all1 (wpAny_Constant_int (kdv_all0 ?_))
  rw [makeFunction_eq]
  simp only [List.zip_nil_right, List.filterMap_nil, List.isEmpty_nil, List.isEmpty_cons, if_true, pure_bind, Bool.false_eq_true, if_false]
  refine wpAny_bind (wpAny_newTextTuple ?_)
  -- the default's tuple is new
  have J0 : L2.Inv X pins σ H { s with heap := s.heap.push (kdv_tup [.int zi s.toks]), toks := s.toks + 1 } := I.kept fun b o e => Heap.get?_push_of_some _ e
  have dtN : H s.heap.objs.size = none := I.hok.fresh (Nat.le_refl _)
  have dtP : s.heap.objs.size ≠ P := Nat.ne_of_gt ltP
  have dtA : (s.heap.push (kdv_tup [.int zi s.toks])).get? s.heap.objs.size = some (kdv_tup [.int zi s.toks]) := Heap.get?_push_size _ rfl
  have szP : s.heap.objs.size ≤ (s.heap.push (kdv_tup [.int zi s.toks])).objs.size := by rw [Heap.size_push]; omega
  have heapP' : (s.heap.push (kdv_tup [.int zi s.toks])).get? P = some { cls := .none, data := .fields tt } := Heap.get?_push_of_some _ heapP
  have bmP' : (s.heap.push (kdv_tup [.int zi s.toks])).BuiltinsAt X.mg P := TB.bm.keeps J0.bk
  cases hit : codeAmong pos tt.toList with
  | some cv =>
    obtain ⟨c', rfl, hco⟩ := among pos cv hit
    refine kdv_makeTailHit (mg := X.mg) (c := c) (P := P) (ps := tt) (closure_ok hfree) I.ok.glob (I.mod.glob.keeps J0.bk) hcode (TB.code.keeps J0.bk) heapP' trip hit bmP' fun ctv doc h2 tk kp sz0 => ?_
    have sz : s.heap.objs.size ≤ h2.objs.size := Nat.le_trans szP sz0
    have J : L2.Inv X pins σ H { s with heap := h2.push (kdv_obj "<lambda>" (X.env.qual ++ "<lambda>") ps (.expr bd) sc (cloFrom X.env.cells sc.names []) (.ref s.heap.objs.size) doc ((X.mg "__name__").getD .none) c' ctv), toks := tk } := I.kept fun b o e => Heap.get?_push_of_some _ (kp b o (Heap.get?_push_of_some _ e))
    exact k h2.objs.size c' _ _ ctv doc _ H _ J (fun _ _ e _ => e) hT (Heap.get?_push_size _ rfl) (I.hok.fresh sz) (apart _ sz) (Heap.get?_push_of_some _ (kp _ _ dtA)) dtN (apart _ (Nat.le_refl _)) hco
  | none =>
    refine kdv_makeTail (mg := X.mg) (c := c) (P := P) (ps := tt) (closure_ok hfree) I.ok.glob (I.mod.glob.keeps J0.bk) hcode (TB.code.keeps J0.bk) heapP' trip hit TB.gP bmP' fun c' ctv doc h2 tk kp new0 lt hrec grown => ?_
    have new : s.heap.objs.size ≤ c' := Nat.le_trans szP new0
    have newer : s.heap.objs.size < c' := Nat.lt_of_lt_of_le (show s.heap.objs.size < (s.heap.push (kdv_tup [.int zi s.toks])).objs.size by rw [Heap.size_push]; omega) new0
    obtain ⟨c2, oc, vs, t, e2, hoc, hdc, hv⟩ := hrec
    cases e2
    have sz : s.heap.objs.size ≤ h2.objs.size := Nat.le_trans new (Nat.le_of_lt lt)
    have freeC : H c' = none := I.hok.fresh new
    have J := LamX.inv_table (t' := tk) (more := #[rawInt pos.line, rawInt pos.col, .ref c']) (h' := h2.push (kdv_obj "<lambda>" (X.env.qual ++ "<lambda>") ps (.expr bd) sc (cloFrom X.env.cells sc.names []) (.ref s.heap.objs.size) doc ((X.mg "__name__").getD .none) c' ctv)) I atP
      (fun b o hb e => Heap.get?_push_of_some _ (kp b o hb (Heap.get?_push_of_some _ e))) (Heap.get?_push_of_some _ grown) new ⟨oc, vs, t, Heap.get?_push_of_some _ hoc, hdc, hv⟩
    have nPc : P ≠ c' := ne_of_none atP freeC
    have keep : ∀ b o, H b = some o → b ≠ P → upd (upd H P (.tbl (tt ++ #[rawInt pos.line, rawInt pos.col, .ref c']))) c' (LamX.CodeO c' (X.env.qual ++ "<lambda>")) b = some o := fun b o e nb => by
      rw [upd_ne (ne_of_none e freeC), upd_ne nb]; exact e
    have snoc : (tt ++ #[rawInt pos.line, rawInt pos.col, .ref c']).toList = tt.toList ++ [rawInt pos.line, rawInt pos.col, .ref c'] := by simp
    have tabs : Tabs T (upd (upd H P (.tbl (tt ++ #[rawInt pos.line, rawInt pos.col, .ref c']))) c' (LamX.CodeO c' (X.env.qual ++ "<lambda>"))) := fun p hp => by
      obtain ⟨ts, a1, a2, a3⟩ := hT p hp
      have code : ∀ {c0 : Addr} {qq : Str}, H c0 = some (LamX.CodeO c0 qq) → c0 ≠ P := fun {c0 qq} e z => by
        rw [z, atP] at e
        exact LamX.codeO_ne tt (Option.some.inj e).symm
      by_cases hb : p.1 = P
      · rw [hb] at a1 ⊢
        rw [atP] at a1
        cases a1
        have ep := hu p hp hb
        refine ⟨_, (upd_ne nPc).trans upd_same, by rw [snoc]; exact PySem.TriplesOk_snoc _ _ _ _ trip, fun p' cv hcv => ?_⟩
        rw [snoc] at hcv
        rcases LamX.among_app _ trip hcv with z | z
        · obtain ⟨c0, e1, e2⟩ := a3 p' cv z
          exact ⟨c0, e1, keep _ _ e2 (code e2)⟩
        · exact ⟨c', z, by rw [ep]; exact upd_same⟩
      · refine ⟨ts, keep _ _ a1 hb, a2, fun p' cv hcv => ?_⟩
        obtain ⟨c0, e1, e2⟩ := a3 p' cv hcv
        exact ⟨c0, e1, keep _ _ e2 (code e2)⟩
    refine k h2.objs.size c' _ _ ctv doc _ _ _ J (fun b o e nb => keep b o e fun z => nb _ hm z.symm) tabs (Heap.get?_push_size _ rfl) ?_ (apart _ sz) (Heap.get?_push_of_some _ (kp _ _ dtP dtA)) ?_ (apart _ (Nat.le_refl _)) upd_same
    rotate_left
    · rw [upd_ne (show s.heap.objs.size ≠ c' from Nat.ne_of_lt newer), upd_ne dtP]
      exact dtN
    rw [upd_ne (show h2.objs.size ≠ c' from Nat.ne_of_gt lt), upd_ne (show h2.objs.size ≠ P from Nat.ne_of_gt (Nat.lt_of_lt_of_le ltP sz))]
    exact I.hok.fresh sz
/-- x(), where x holds the lambda -/
theorem pe_actD {CXg : CXT} {Eg : XK} {Ng : List Str} {qg : Str} {sg : Scope} {g f c' dt : Addr} {cdg pm ctv doc v0 : Value} {y0 : Str} {ps : Arguments} {bd : Expr} {sc : Scope} {k i : Nat} {a : Str} {pn : List (Addr × Obj)} {xe : Value → Shared → Prop} {W : WX} {E : XK} {tb : TE} {p1 p2 : Pos} {σ0 : L2.St}
    (I : L2.Inv X pins σ H s) (L : LamD X.env.scope sc X.N y0) (hf : s.heap.get? f = some (kdv_obj "<lambda>" (X.env.qual ++ "<lambda>") ps (.expr bd) sc (cloFrom X.env.cells sc.names []) (.ref dt) doc pm c' ctv)) (hfn : H f = none) (hfr : f ∉ frs X.stack)
    (ht0 : s.heap.get? dt = some (kdv_tup [v0])) (htn : H dt = none) (htr : dt ∉ frs X.stack)
    {kb : Option (Array Value) → Sem (List (Str × Value))} (hbind : bindArgs (kdv_fn "<lambda>" (X.env.qual ++ "<lambda>") ps (.expr bd) sc (cloFrom X.env.cells sc.names []) (.ref dt) doc pm (.ref c') ctv) ⟨[], []⟩ = seqItems? (.ref dt) >>= kb) (hbind2 : kb (some #[v0]) = pure [(y0, v0)])
    (tk : L2N.Takes ((cxOf CXg X.prog X.w X.K X.mg X.base Ng qg sg g cdg X.A X.stack s H Eg).tr pn xe) W) (hW : ∀ cls d H', E cls d H' → W cls d σ0 H') (hr : Room (k + 1) (X.A.deeper (envOfC qg sg s.heap.objs.size g cdg)))
    (hbody : ∀ (A : Around) (outer : List PySem.Env) (s : Shared) (H : Hp), Room k (A.deeper (LamX.lamEnv X sc s.heap.objs.size f c')) → PE (lamN X A outer s H E sc f c') bd tb)
    (hN : Ng[i]? = some a) (hv : Vis sg a) (hd : (a == ("__debug__" : Str)) = false := by decide) (hcd : (a == ("__classdict__" : Str)) = false := by decide) :
    PE ((cxOf CXg X.prog X.w X.K X.mg X.base Ng qg sg g cdg X.A X.stack s H Eg).tr pn xe) (.Call (.Name a p1) [] [] p2)
      (fun σZ HZ Q => σZ = σ0 ∧ σZ[i]? = some (some (.ref f)) ∧ HZ c' = some (LamX.CodeO c' (X.env.qual ++ "<lambda>")) ∧ tb σ HZ Q) := by
  refine ⟨fun pinsZ sZ σZ HZ Q IZ ⟨h0, hs, hc, ht⟩ => wpAny_Call_Name_kw (thn ((pe_var (pos := p1) (i := i) hN hv hd hcd).run pinsZ sZ σZ HZ (fun v H1 => v = .ref f ∧ H1 = HZ) IZ ⟨.ref f, hs, rfl, rfl⟩) fun u s2 ⟨v, H1, I1, r1, ev, eH⟩ => ?_)⟩
  subst ev
  rw [eH] at I1
  obtain rfl : u = Value.ref f := r1
  have there : s2.heap.get? f = some (kdv_obj "<lambda>" (X.env.qual ++ "<lambda>") ps (.expr bd) sc (cloFrom X.env.cells sc.names []) (.ref dt) doc pm c' ctv) := I1.base.keep f _ hf hfn hfr (fun z => nomatch (show f ∈ ([] : List Addr) from z))
  have thereT : s2.heap.get? dt = some (kdv_tup [v0]) := I1.base.keep dt _ ht0 htn htr (fun z => nomatch (show dt ∈ ([] : List Addr) from z))
  refine callWith_F0 ⟨_, _, _, _, there⟩ ?_
  have un : Un (frs X.stack) [] H HZ s.heap s2.heap := I1.base
  obtain ⟨⟨oc, vs, t, hoc, hdc, hvc⟩, _, _⟩ := I1.hok c' _ hc
  have body : codeAny (model X.prog X.w) (X.A.deeper (envOfC qg sg s.heap.objs.size g cdg)) (.call (.ref f) ⟨[], []⟩) (CR (L2N.CX X.prog X.w) (envOfC qg sg s.heap.objs.size g cdg :: X.stack) X.prog X.w HZ s2 Q E) s2 := by
    refine kla_callFunE hr.depth there rfl L.co L.gen rfl ⟨c', oc, vs, t, rfl, hoc, hdc, hvc⟩ ?_
    refine BindsTo.of_defaults (fd := kdv_fn "<lambda>" (X.env.qual ++ "<lambda>") ps (.expr bd) sc (cloFrom X.env.cells sc.names []) (.ref dt) doc pm (.ref c') ctv) rfl thereT rfl hbind hbind2 _ _ _ _ ?_
    refine (wpAny_newFunctionEnv (fun y hy => (L.own y hy).1) (fun y hy => by rw [List.mem_singleton.mp hy]; exact L.par) (fun h3 hns hsb => ⟨I1.nolimit.fresh _ hsb, ?_⟩) L.kind)
    show codeAny _ _ (.expr bd (LamX.lamEnv X sc s2.heap.objs.size f c')) _ _
    have kp : ∀ b o, s2.heap.get? b = some o → h3.get? b = some o := fun b o e => hsb.extBut b o (Nat.ne_of_lt (Heap.lt_size e)) (Heap.get?_push_of_some _ e)
    have J := (lam_startD (E := E) (f := f) (c' := c') (tk := s2.toks + [(y0, v0)].length) I L I1.env0 hr.hd un hns kp).wish fun e s' => wpAny (model X.prog X.w) ((X.A.deeper (envOfC qg sg s.heap.objs.size g cdg)).deeper (LamX.lamEnv X sc s2.heap.objs.size f c')) (leaving (LamX.lamEnv X sc s2.heap.objs.size f c') e) (fun _ s'' => L2N.CX X.prog X.w (envOfC qg sg s.heap.objs.size g cdg :: X.stack) HZ s2 E e s'') (fun e' s'' => L2N.CX X.prog X.w (envOfC qg sg s.heap.objs.size g cdg :: X.stack) HZ s2 E e' s'') s'
    refine kla_codeExpr (wpAny_mono ((hbody _ _ s2 HZ (hr.deeper _)).run [] _ _ HZ Q J ht) (fun v s' hq => ?_) fun e s' hq => hq)
    obtain ⟨w', H', J', rv, q⟩ := hq
    exact ⟨w', H', J'.os, J'.bare, J'.base, J'.hok, rv, q⟩
  refine wpAny_call (codeAny_mono body fun r s' hq => ?_)
  rcases r with e | fl
  · exact tk e s' (L2N.XE.of_call I1 (fun cls d H' z => by rw [h0]; exact hW cls d H' z) hq)
  · cases fl <;> first | exact False.elim hq | exact I1.after hq
end
theorem pe_lamND {X : Cx} {T : List (Addr × Str)} {TT : (XK → Hp → VK → Prop) → Hp → VK → Prop} {x a : Str} {g c P : Addr} {k : Nat} {pg : Arguments} {bg : List Stmt} {sg : Scope} {dV kV doc pm cdv ct oc : Value} {an od : Option Addr} {osl : Array (Option Value)} {Ng : List Str}
    {ps : Arguments} {bd : Expr} {sc : Scope} {t : XK → TE} {p lpos pos : Pos} (hg : Gl X x) (hm : X.mg x = some (.ref g)) (hk : PySem.W.keepIn X.K (.ref g) = true)
    (lk : X.K.lookup g = some ⟨oc, od, .func (PySem.W.fnOf x x pg bg sg dV kV doc pm an cdv ct), osl⟩) (hcg : PySem.W.codeIn X.K cdv x = true) (hb : L2.Binds X.K (PySem.W.fnOf x x pg bg sg dV kV doc pm an cdv ct) [a] []) (Sg : FnScope Ng [a] sg) (hNg : Ng[0]? = some a) (hva : Vis sg a)
    (hG : GivesN X k Ng x sg g cdv bg a (X.env.qual ++ "<lambda>") TT)
    (TB : LamX.TabB X.base X.mg c P) (hcode : X.env.code = .ref c) (hmT : (P, X.env.qual ++ "<lambda>") ∈ T) (hu : ∀ p ∈ T, p.1 = P → p.2 = X.env.qual ++ "<lambda>") (hr : Room (k + 2) X.A) {y0 : Str} {zi : Int} {zk : Nat} {zp : Pos} (L : LamD X.env.scope sc X.N y0) (hdef : ps.defaults = [.Constant (.int zi) zk zp]) (hdk : ps.kw_defaults = [])
    (hbind : ∀ (q : Str) (cl : List (Str × Addr)) (dt : Addr) (doc pm cv ctv v0 : Value), ∃ kb : Option (Array Value) → Sem (List (Str × Value)), bindArgs (kdv_fn "<lambda>" q ps (.expr bd) sc cl (.ref dt) doc pm cv ctv) ⟨[], []⟩ = (seqItems? (.ref dt) >>= kb) ∧ kb (some #[v0]) = pure [(y0, v0)])
    (hbody : ∀ (A : Around) (outer : List PySem.Env) (s : Shared) (H : Hp) (E : XK) (f c' : Addr), Room k (A.deeper (LamX.lamEnv X sc s.heap.objs.size f c')) → PE (lamN X A outer s H E sc f c') bd (t E))
    (hdb : (x == ("__debug__" : Str)) = false := by decide) (hd : (a == ("__debug__" : Str)) = false := by decide) (hcd : (a == ("__classdict__" : Str)) = false := by decide) :
    PE X (.Call (.Name x p) [.Lambda ps bd sc lpos] [] pos) (tLamN T TT t) := by
  refine ⟨fun pins s σ H Q I ⟨hT, h⟩ => wpAny_Call_Name_kw (ld_glob I hg hm ?_ hdb)⟩
  refine callWith_K (h₀ := X.base) I.ok.mod.kin hk ?_ (by rfl) (by rfl)
  show wpAny _ _ (spliced ((false, eval (.Lambda ps bd sc lpos) X.env) :: backTo pos (starEach [] X.env))) _ _ s
  refine Calls.spliced_cons (lam_newD I TB hcode hmT hu hT hdef hdk (L.has I.ok) fun f c' dt pm' ctv doc v0 H1 s' I1 eN T1 hf hfn hfr ht0 htn htr hco => Calls.spliced_nil ⟨I1.kIn, ?_⟩)
  obtain ⟨kb, hb1, hb2⟩ := hbind (X.env.qual ++ "<lambda>") (cloFrom X.env.cells sc.names []) dt doc pm' (.ref c') ctv v0
  have run : codeAny (model X.prog X.w) X.A (.call (.ref g) ⟨[.ref f], []⟩) (CR C8.CX0 X.stack X.prog X.w H1 s' Q C8.E0) s' := by
    refine LamX.run_ofS (N := Ng) (ps := [a]) (us := [.ref f]) (vs := [.ref f]) lk hcg Sg hr I1.env0 (hb s' [.ref f] I1.kIn rfl) (.cons rfl .nil) rfl fun hr' => ?_
    obtain ⟨t', ht', hq'⟩ := hG f c' s' H1 Q (fun E H' Q' => t E σ H' Q') hr' (fun W pn xe E σ0 p1 p2 tk hW => pe_actD (i := 0) I1 L hf hfn hfr ht0 htn htr hb1 hb2 tk hW hr' (fun A outer s H hr2 => hbody A outer s H E f c' hr2) hNg hva hd hcd) hco (h H1 eN T1)
    exact ⟨t', ht'.nox, hq'⟩
  refine wpAny_call (codeAny_mono run fun r s2 hq => ?_)
  rcases r with e | fl
  · exact (show False from hq).elim
  · cases fl <;> first | exact False.elim hq | exact I1.after hq
section
variable {C : Ctx} {fb : ME} {oc : Exc → Res D}
/-- tell(lambda: body) -/
theorem de_outcD {x a : Str} {g c P : Addr} {k : Nat} {pg : Arguments} {bg : List Stmt} {sg : Scope} {gfd : FuncData} {Ng : List Str} {ps : Arguments} {bd : Expr} {sc : Scope} {p lpos pos : Pos} {q : Str} (hm : C.X.mg x = some (.ref g)) (F : FunD C.X.K x x pg bg sg [] [] g gfd)
    (hb : L2.Binds C.X.K gfd [a] []) (Sg : FnScope Ng [a] sg) (hNg : Ng[0]? = some a) (hva : Vis sg a) (hG : ∀ cdv, GivesN C.X k Ng x sg g cdv bg a (C.X.env.qual ++ "<lambda>") (TTo C.g oc))
    (TB : LamX.TabB C.X.base C.X.mg c P) (hcode : C.X.env.code = .ref c) (hq : q = C.X.env.qual ++ "<lambda>") (htb : C.tb = [(P, q)]) (hr : Room (k + 2) C.X.A)
    (hfb : ∀ (A : Around) (outer : List PySem.Env) (s : Shared) (H : Hp) (E : XK) (f c' : Addr) (H0 : Hp) (A0 : Addr → Prop), Room k (A.deeper (LamX.lamEnv C.X sc s.heap.objs.size f c')) → DE (lamC C A outer s H E sc f c' H0 A0) bd fb)
    {y0 : Str} {zi : Int} {zk : Nat} {zp : Pos} (L : LamD C.X.env.scope sc C.X.N y0) (hg : Gl C.X x := by rfl) (hdef : ps.defaults = [.Constant (.int zi) zk zp] := by rfl) (hdk : ps.kw_defaults = [] := by rfl)
    (hbind : ∀ (q : Str) (cl : List (Str × Addr)) (dt : Addr) (doc pm cv ctv v0 : Value), ∃ kb : Option (Array Value) → Sem (List (Str × Value)), bindArgs (kdv_fn "<lambda>" q ps (.expr bd) sc cl (.ref dt) doc pm cv ctv) ⟨[], []⟩ = (seqItems? (.ref dt) >>= kb) ∧ kb (some #[v0]) = pure [(y0, v0)] := by intros; exact ⟨_, rfl, rfl⟩)
    (hdb : (x == ("__debug__" : Str)) = false := by decide) (hd : (a == ("__debug__" : Str)) = false := by decide) (hcd : (a == ("__classdict__" : Str)) = false := by decide) :
    DE C (.Call (.Name x p) [.Lambda ps bd sc lpos] [] pos) (eOutc fb oc) := by
  have kp := F.kp
  obtain ⟨o1, od, dV, kV, doc, pm, an, cdv, ct, osl, rfl, lk, hcg, _, _⟩ := F.ex
  subst hq
  refine pe_imp (pe_lamND (T := C.tb) (TT := TTo C.g oc) (t := tLamB C fb) hg hm kp lk hcg hb Sg hNg hva (hG cdv) TB hcode (by rw [htb]; exact List.mem_singleton.mpr rfl) (fun p hp _ => by rw [htb] at hp; rw [List.mem_singleton.mp hp]) hr L hdef hdk hbind (fun A outer s H E f c' hr2 => ?_) hdb hd hcd) fun σ H Q ⟨own, F, e, g, S, o⟩ => outc_tree S o
  refine ⟨fun pins s2 σ H2 Q I ⟨H0, A0, own, F2, e, g2, S, o⟩ => (hfb A outer s H E f c' H0 A0 hr2).run pins s2 σ H2 Q I ⟨own, F2, e, g2, ⟨S.len, S.sl, S.on, S.ph, S.inj, S.fin, S.h0, S.fr, S.io, S.tb, S.ih, S.rg⟩, ?_⟩⟩
  unfold OutE at o ⊢
  cases hf : fb e g2 with
  | ok p => rw [hf] at o; exact fun H' v x S' r => o H' v x ⟨S'.len, S'.sl, S'.on, S'.ph, S'.inj, S'.fin, S'.h0, S'.fr, S'.io, S'.tb, S'.ih, S'.rg⟩ r
  | err y => rw [hf] at o; exact fun H' c dd x ⟨g', S'⟩ r => o H' c dd x ⟨g', ⟨S'.len, S'.sl, S'.on, S'.ph, S'.inj, S'.fin, S'.h0, S'.fr, S'.io, S'.tb, S'.ih, S'.rg⟩⟩ r
  | stuck => rw [hf] at o; exact o
end
end DL

set_option Elab.async false
set_option linter.all false
set_option maxRecDepth 100000
set_option maxHeartbeats 2000000
/-! DLb: a lambda with a default, handed on by a def to the def that tells how it ended. -/
namespace DL
open PySem PySem.Spec PySem.W PyProof.Rows L2 HotX
section
variable {X : Cx} {pins : List (Addr × Obj)} {σ : L2.St} {H HZ : Hp} {s s1 : Shared}
/-- x(), where x holds the lambda, one def further in -/
theorem pe_actMD {CXg : CXT} {Eg : XK} {Ng : List Str} {qg : Str} {sg : Scope} {g f c' p : Addr} {cdg pm ctv : Value} {dt : Addr} {doc v0 : Value} {y0 : Str} {ps : Arguments} {bd : Expr} {sc : Scope} {k i : Nat} {a : Str} {pn : List (Addr × Obj)} {xe : Value → Shared → Prop} {W : WX} {E : XK} {tb : TE} {p1 p2 : Pos} {σ0 : L2.St}
    {AA : Around} {oo : List PySem.Env} {sM : Shared} {HM : Hp} (uM : Un (frs X.stack) [] H HM s.heap sM.heap) (ho : frs oo = p :: frs X.stack) (hp : s.heap.objs.size ≤ p)
    (I : L2.Inv X pins σ H s) (L : LamD X.env.scope sc X.N y0) (hf : s.heap.get? f = some (kdv_obj "<lambda>" (X.env.qual ++ "<lambda>") ps (.expr bd) sc (cloFrom X.env.cells sc.names []) (.ref dt) doc pm c' ctv)) (hfn : H f = none) (hfr : f ∉ frs X.stack)
    (ht0 : s.heap.get? dt = some (kdv_tup [v0])) (htn : H dt = none) (htr : dt ∉ frs X.stack)
    {kb : Option (Array Value) → Sem (List (Str × Value))} (hbind : bindArgs (kdv_fn "<lambda>" (X.env.qual ++ "<lambda>") ps (.expr bd) sc (cloFrom X.env.cells sc.names []) (.ref dt) doc pm (.ref c') ctv) ⟨[], []⟩ = seqItems? (.ref dt) >>= kb) (hbind2 : kb (some #[v0]) = pure [(y0, v0)])
    (tk : L2N.Takes ((cxOf CXg X.prog X.w X.K X.mg X.base Ng qg sg g cdg AA oo sM HM Eg).tr pn xe) W) (hW : ∀ cls d H', E cls d H' → W cls d σ0 H') (hr : Room (k + 1) (AA.deeper (envOfC qg sg sM.heap.objs.size g cdg)))
    (hbody : ∀ (A : Around) (outer : List PySem.Env) (s : Shared) (H : Hp), Room k (A.deeper (LamX.lamEnv X sc s.heap.objs.size f c')) → PE (lamN X A outer s H E sc f c') bd tb)
    (hN : Ng[i]? = some a) (hv : Vis sg a) (hd : (a == ("__debug__" : Str)) = false := by decide) (hcd : (a == ("__classdict__" : Str)) = false := by decide) :
    PE ((cxOf CXg X.prog X.w X.K X.mg X.base Ng qg sg g cdg AA oo sM HM Eg).tr pn xe) (.Call (.Name a p1) [] [] p2)
      (fun σZ HZ Q => σZ = σ0 ∧ σZ[i]? = some (some (.ref f)) ∧ HZ c' = some (LamX.CodeO c' (X.env.qual ++ "<lambda>")) ∧ tb σ HZ Q) := by
  refine ⟨fun pinsZ sZ σZ HZ Q IZ ⟨h0, hs, hc, ht⟩ => wpAny_Call_Name_kw (thn ((pe_var (pos := p1) (i := i) hN hv hd hcd).run pinsZ sZ σZ HZ (fun v H1 => v = .ref f ∧ H1 = HZ) IZ ⟨.ref f, hs, rfl, rfl⟩) fun u s2 ⟨v, H1, I1, r1, ev, eH⟩ => ?_)⟩
  subst ev
  rw [eH] at I1
  obtain rfl : u = Value.ref f := r1
  have u1 : Un (frs oo) [] HM HZ sM.heap s2.heap := I1.base
  rw [ho] at u1
  have un : Un (frs X.stack) [] H HZ s.heap s2.heap := un_more uM u1 hp
  have there : s2.heap.get? f = some (kdv_obj "<lambda>" (X.env.qual ++ "<lambda>") ps (.expr bd) sc (cloFrom X.env.cells sc.names []) (.ref dt) doc pm c' ctv) := un.keep f _ hf hfn hfr (fun z => nomatch (show f ∈ ([] : List Addr) from z))
  have thereT : s2.heap.get? dt = some (kdv_tup [v0]) := un.keep dt _ ht0 htn htr (fun z => nomatch (show dt ∈ ([] : List Addr) from z))
  refine callWith_F0 ⟨_, _, _, _, there⟩ ?_
  obtain ⟨⟨oc, vs, t, hoc, hdc, hvc⟩, _, _⟩ := I1.hok c' _ hc
  have body : codeAny (model X.prog X.w) (AA.deeper (envOfC qg sg sM.heap.objs.size g cdg)) (.call (.ref f) ⟨[], []⟩) (CR (L2N.CX X.prog X.w) (envOfC qg sg sM.heap.objs.size g cdg :: oo) X.prog X.w HZ s2 Q E) s2 := by
    refine kla_callFunE hr.depth there rfl L.co L.gen rfl ⟨c', oc, vs, t, rfl, hoc, hdc, hvc⟩ ?_
    refine BindsTo.of_defaults (fd := kdv_fn "<lambda>" (X.env.qual ++ "<lambda>") ps (.expr bd) sc (cloFrom X.env.cells sc.names []) (.ref dt) doc pm (.ref c') ctv) rfl thereT rfl hbind hbind2 _ _ _ _ ?_
    refine (wpAny_newFunctionEnv (fun y hy => (L.own y hy).1) (fun y hy => by rw [List.mem_singleton.mp hy]; exact L.par) (fun h3 hns hsb => ⟨I1.nolimit.fresh _ hsb, ?_⟩) L.kind)
    show codeAny _ _ (.expr bd (LamX.lamEnv X sc s2.heap.objs.size f c')) _ _
    have kp : ∀ b o, s2.heap.get? b = some o → h3.get? b = some o := fun b o e => hsb.extBut b o (Nat.ne_of_lt (Heap.lt_size e)) (Heap.get?_push_of_some _ e)
    have J := (lam_startD (E := E) (f := f) (c' := c') (tk := s2.toks + [(y0, v0)].length) I L I1.env0 hr.hd un hns kp).wish fun e s' => wpAny (model X.prog X.w) ((AA.deeper (envOfC qg sg sM.heap.objs.size g cdg)).deeper (LamX.lamEnv X sc s2.heap.objs.size f c')) (leaving (LamX.lamEnv X sc s2.heap.objs.size f c') e) (fun _ s'' => L2N.CX X.prog X.w (envOfC qg sg sM.heap.objs.size g cdg :: oo) HZ s2 E e s'') (fun e' s'' => L2N.CX X.prog X.w (envOfC qg sg sM.heap.objs.size g cdg :: oo) HZ s2 E e' s'') s'
    refine kla_codeExpr (wpAny_mono ((hbody _ _ s2 HZ (hr.deeper _)).run [] _ _ HZ Q J ht) (fun v s' hq => ?_) fun e s' hq => hq)
    obtain ⟨w', H', J', rv, q⟩ := hq
    exact ⟨w', H', J'.os, J'.bare, J'.base, J'.hok, rv, q⟩
  refine wpAny_call (codeAny_mono body fun r s' hq => ?_)
  rcases r with e | fl
  · exact tk e s' (L2N.XE.of_call I1 (fun cls d H' z => by rw [h0]; exact hW cls d H' z) hq)
  · cases fl <;> first | exact False.elim hq | exact I1.after hq
end
theorem pe_lamMD {X : Cx} {T : List (Addr × Str)} {TT : (XK → Hp → VK → Prop) → Hp → VK → Prop} {x a y b : Str} {g1 g2 c P : Addr} {k : Nat} {pg1 pg2 : Arguments} {bg1 : List Stmt} {sg1 sg2 : Scope} {dV1 kV1 doc1 pm1 cdv1 ct1 oc1 dV2 kV2 doc2 pm2 cdv2 ct2 oc2 : Value} {an1 od1 an2 od2 : Option Addr} {osl1 osl2 : Array (Option Value)} {Ng1 Ng2 : List Str}
    {ps : Arguments} {bd : Expr} {sc : Scope} {t : XK → TE} {p lpos pos q1 q2 q3 q4 q5 q6 q7 : Pos} {kc : Nat} (hg : Gl X x) (hm2 : X.mg x = some (.ref g2)) (hk2 : PySem.W.keepIn X.K (.ref g2) = true)
    (lk2 : X.K.lookup g2 = some ⟨oc2, od2, .func (PySem.W.fnOf x x pg2 [.Return (some (.Subscript (.Call (.Name y q1) [.Name a q2] [] q3) (.Slice (some (.Constant (.int 1) kc q4)) none none q5) q6)) q7] sg2 dV2 kV2 doc2 pm2 an2 cdv2 ct2), osl2⟩) (hcg2 : PySem.W.codeIn X.K cdv2 x = true) (hb2 : L2.Binds X.K (PySem.W.fnOf x x pg2 [.Return (some (.Subscript (.Call (.Name y q1) [.Name a q2] [] q3) (.Slice (some (.Constant (.int 1) kc q4)) none none q5) q6)) q7] sg2 dV2 kV2 doc2 pm2 an2 cdv2 ct2) [a] []) (Sg2 : FnScope Ng2 [a] sg2) (hNg2 : Ng2[0]? = some a) (hva2 : Vis sg2 a)
    (hgy : sg2.names.lookup y = some .globalImplicit) (hm1 : X.mg y = some (.ref g1)) (hk1 : PySem.W.keepIn X.K (.ref g1) = true)
    (lk1 : X.K.lookup g1 = some ⟨oc1, od1, .func (PySem.W.fnOf y y pg1 bg1 sg1 dV1 kV1 doc1 pm1 an1 cdv1 ct1), osl1⟩) (hcg1 : PySem.W.codeIn X.K cdv1 y = true) (hb1 : L2.Binds X.K (PySem.W.fnOf y y pg1 bg1 sg1 dV1 kV1 doc1 pm1 an1 cdv1 ct1) [b] []) (Sg1 : FnScope Ng1 [b] sg1) (hNg1 : Ng1[0]? = some b) (hva1 : Vis sg1 b)
    (hG : ∀ s H, GivesN (cxOf C8.CX0 X.prog X.w X.K X.mg X.base Ng2 x sg2 g2 cdv2 X.A X.stack s H C8.E0) k Ng1 y sg1 g1 cdv1 bg1 b (X.env.qual ++ "<lambda>") TT)
    (TB : LamX.TabB X.base X.mg c P) (hcode : X.env.code = .ref c) (hmT : (P, X.env.qual ++ "<lambda>") ∈ T) (hu : ∀ p ∈ T, p.1 = P → p.2 = X.env.qual ++ "<lambda>") (hr : Room (k + 3) X.A) {y0 : Str} {zi : Int} {zk : Nat} {zp : Pos} (L : LamD X.env.scope sc X.N y0) (hdef : ps.defaults = [.Constant (.int zi) zk zp]) (hdk : ps.kw_defaults = [])
    (hbind : ∀ (q : Str) (cl : List (Str × Addr)) (dt : Addr) (doc pm cv ctv v0 : Value), ∃ kb : Option (Array Value) → Sem (List (Str × Value)), bindArgs (kdv_fn "<lambda>" q ps (.expr bd) sc cl (.ref dt) doc pm cv ctv) ⟨[], []⟩ = (seqItems? (.ref dt) >>= kb) ∧ kb (some #[v0]) = pure [(y0, v0)])
    (hbody : ∀ (A : Around) (outer : List PySem.Env) (s : Shared) (H : Hp) (E : XK) (f c' : Addr), Room k (A.deeper (LamX.lamEnv X sc s.heap.objs.size f c')) → PE (lamN X A outer s H E sc f c') bd (t E))
    (hdb : (x == ("__debug__" : Str)) = false := by decide) (hdb1 : (y == ("__debug__" : Str)) = false := by decide) (hd : (a == ("__debug__" : Str)) = false := by decide) (hcd : (a == ("__classdict__" : Str)) = false := by decide) (hd1 : (b == ("__debug__" : Str)) = false := by decide) (hcd1 : (b == ("__classdict__" : Str)) = false := by decide) :
    PE X (.Call (.Name x p) [.Lambda ps bd sc lpos] [] pos) (tLamM X.K T TT t) := by
  refine ⟨fun pins s σ H Q I ⟨hT, h⟩ => wpAny_Call_Name_kw (ld_glob I hg hm2 ?_ hdb)⟩
  refine callWith_K (h₀ := X.base) I.ok.mod.kin hk2 ?_ (by rfl) (by rfl)
  show wpAny _ _ (spliced ((false, eval (.Lambda ps bd sc lpos) X.env) :: backTo pos (starEach [] X.env))) _ _ s
  refine Calls.spliced_cons (lam_newD I TB hcode hmT hu hT hdef hdk (L.has I.ok) fun f c' dt pm' ctv doc v0 H1 s' I1 eN T1 hf hfn hfr ht0 htn htr hco => Calls.spliced_nil ⟨I1.kIn, ?_⟩)
  obtain ⟨kb, hkb1, hkb2⟩ := hbind (X.env.qual ++ "<lambda>") (cloFrom X.env.cells sc.names []) dt doc pm' (.ref c') ctv v0
  let X2 : Cx := cxOf C8.CX0 X.prog X.w X.K X.mg X.base Ng2 x sg2 g2 cdv2 X.A X.stack s' H1 C8.E0
  have run : codeAny (model X.prog X.w) X.A (.call (.ref g2) ⟨[.ref f], []⟩) (CR C8.CX0 X.stack X.prog X.w H1 s' Q C8.E0) s' := by
    refine LamX.run_ofS (N := Ng2) (ps := [a]) (us := [.ref f]) (vs := [.ref f]) lk2 hcg2 Sg2 hr I1.env0 (hb2 s' [.ref f] I1.kIn rfl) (.cons rfl .nil) rfl fun hr2 => ?_
    -- the call of the inner def
    have inner : PE X2 (.Call (.Name y q1) [.Name a q2] [] q3) (fun σ2 H2 Q2 => σ2[0]? = some (some (.ref f)) ∧ H2 c' = some (LamX.CodeO c' (X.env.qual ++ "<lambda>")) ∧ TT (fun E H' Q' => t E σ H' Q') H2 Q2) := by
      refine ⟨fun pins2 s2 σ2 H2 Q2 I2 ⟨h0, hc2, ht2⟩ => wpAny_Call_Name_kw (ld_glob I2 hgy hm1 ?_ hdb1)⟩
      refine callWith_K (h₀ := X.base) I2.ok.mod.kin hk1 (thn ((pa_cons (pe_var (X := X2) (pos := q2) (i := 0) hNg2 hva2 hd hcd) pa_nil).run q3 pins2 s2 σ2 H2 (fun vs H3 => vs = [.ref f] ∧ H3 = H2) I2 ⟨.ref f, h0, rfl, rfl⟩) fun us s3 ⟨vs, H3, I3, r3, q3'⟩ => ⟨I3.kIn, ?_⟩) (by rfl) (by rfl)
      obtain ⟨rfl, rfl⟩ := q3'
      have run1 : codeAny (model X.prog X.w) X2.A (.call (.ref g1) ⟨us, []⟩) (CR C8.CX0 X2.stack X.prog X.w H3 s3 Q2 C8.E0) s3 := by
        have bb := hb1 s3 us I3.kIn (by rw [List.append_nil, ← r3.length]; rfl)
        rw [List.append_nil] at bb
        refine LamX.run_ofS (N := Ng1) (ps := [b]) (us := us) (vs := [.ref f]) lk1 hcg1 Sg1 hr2 I3.env0 bb r3 rfl fun hr3 => ?_
        obtain ⟨t', ht', hq'⟩ := hG s' H1 f c' s3 H3 Q2 (fun E H' Q' => t E σ H' Q') hr3 (fun W pn xe E σ0 p1 p2 tk hW => pe_actMD (X := X) (CXg := C8.CX0) (Eg := C8.E0) (Ng := Ng1) (qg := y) (sg := sg1) (g := g1) (cdg := cdv1) (AA := X2.A) (oo := X2.stack) (sM := s3) (HM := H3) (i := 0) (p := s'.heap.objs.size) (show Un (frs X.stack) [] H1 H3 s'.heap s3.heap from I3.base) rfl (Nat.le_refl _) I1 L hf hfn hfr ht0 htn htr hkb1 hkb2 tk hW hr3 (fun A outer s H hr4 => hbody A outer s H E f c' hr4) hNg1 hva1 hd1 hcd1) hc2 ht2
        exact ⟨t', ht'.nox, hq'⟩
      refine wpAny_call (codeAny_mono run1 fun r s4 hq => ?_)
      rcases r with e | fl
      · exact (show False from hq).elim
      · cases fl <;> first | exact False.elim hq | exact I3.after hq
    refine ⟨_, pss_one (ps_ret (pe_slice sl_tupA inner (po_some pe_int) po_none)), ?_⟩
    refine ⟨rfl, hco, ?_⟩
    have h2 := h H1 eN T1
    have e : (fun v H2 => rSlA X.K v (some 1) none H2 Q) = fun v H2 => ∃ i, V.int 1 = V.int i ∧ rSlA X.K v (some i) none H2 Q := by
      funext v H2
      exact propext ⟨fun q => ⟨1, rfl, q⟩, fun ⟨i, e, q⟩ => by cases e; exact q⟩
    rw [e] at h2
    exact h2
  refine wpAny_call (codeAny_mono run fun r s2 hq => ?_)
  rcases r with e | fl
  · exact (show False from hq).elim
  · cases fl <;> first | exact False.elim hq | exact I1.after hq
section
variable {C : Ctx} {fb : ME} {oc : Exc → Res D}
/-- tell(lambda: body), of which the answer is left out -/
theorem de_errD {x a y b : Str} {g1 g2 c P : Addr} {k : Nat} {pg1 pg2 : Arguments} {bg1 : List Stmt} {sg1 sg2 : Scope} {fd1 fd2 : FuncData} {Ng1 Ng2 : List Str} {ps : Arguments} {bd : Expr} {sc : Scope} {p lpos pos q1 q2 q3 q4 q5 q6 q7 : Pos} {kc : Nat} {q : Str}
    (hm2 : C.X.mg x = some (.ref g2)) (F2 : FunD C.X.K x x pg2 [.Return (some (.Subscript (.Call (.Name y q1) [.Name a q2] [] q3) (.Slice (some (.Constant (.int 1) kc q4)) none none q5) q6)) q7] sg2 [] [] g2 fd2)
    (hb2 : L2.Binds C.X.K fd2 [a] []) (Sg2 : FnScope Ng2 [a] sg2) (hNg2 : Ng2[0]? = some a) (hva2 : Vis sg2 a) (hgy : sg2.names.lookup y = some .globalImplicit)
    (hm1 : C.X.mg y = some (.ref g1)) (F1 : FunD C.X.K y y pg1 bg1 sg1 [] [] g1 fd1)
    (hb1 : L2.Binds C.X.K fd1 [b] []) (Sg1 : FnScope Ng1 [b] sg1) (hNg1 : Ng1[0]? = some b) (hva1 : Vis sg1 b)
    (hG : ∀ (cdv1 cdv2 : Value) s H, GivesN (cxOf C8.CX0 C.X.prog C.X.w C.X.K C.X.mg C.X.base Ng2 x sg2 g2 cdv2 C.X.A C.X.stack s H C8.E0) k Ng1 y sg1 g1 cdv1 bg1 b (C.X.env.qual ++ "<lambda>") (TTo C.g oc))
    (TB : LamX.TabB C.X.base C.X.mg c P) (hcode : C.X.env.code = .ref c) (hq : q = C.X.env.qual ++ "<lambda>") (htb : C.tb = [(P, q)]) (hr : Room (k + 3) C.X.A)
    (hfb : ∀ (A : Around) (outer : List PySem.Env) (s : Shared) (H : Hp) (E : XK) (f c' : Addr) (H0 : Hp) (A0 : Addr → Prop), Room k (A.deeper (LamX.lamEnv C.X sc s.heap.objs.size f c')) → DE (lamC C A outer s H E sc f c' H0 A0) bd fb)
    {y0 : Str} {zi : Int} {zk : Nat} {zp : Pos} (L : LamD C.X.env.scope sc C.X.N y0) (hg : Gl C.X x := by rfl) (hdef : ps.defaults = [.Constant (.int zi) zk zp] := by rfl) (hdk : ps.kw_defaults = [] := by rfl)
    (hbind : ∀ (q : Str) (cl : List (Str × Addr)) (dt : Addr) (doc pm cv ctv v0 : Value), ∃ kb : Option (Array Value) → Sem (List (Str × Value)), bindArgs (kdv_fn "<lambda>" q ps (.expr bd) sc cl (.ref dt) doc pm cv ctv) ⟨[], []⟩ = (seqItems? (.ref dt) >>= kb) ∧ kb (some #[v0]) = pure [(y0, v0)] := by intros; exact ⟨_, rfl, rfl⟩)
    (hdb : (x == ("__debug__" : Str)) = false := by decide) (hdb1 : (y == ("__debug__" : Str)) = false := by decide) (hd : (a == ("__debug__" : Str)) = false := by decide) (hcd : (a == ("__classdict__" : Str)) = false := by decide) (hd1 : (b == ("__debug__" : Str)) = false := by decide) (hcd1 : (b == ("__classdict__" : Str)) = false := by decide) :
    DE C (.Call (.Name x p) [.Lambda ps bd sc lpos] [] pos) (eErr fb oc) := by
  have kp1 := F1.kp
  have kp2 := F2.kp
  obtain ⟨oc1, od1, dV1, kV1, doc1, pm1, an1, cdv1, ct1, osl1, rfl, lk1, hcg1, _, _⟩ := F1.ex
  obtain ⟨oc2, od2, dV2, kV2, doc2, pm2, an2, cdv2, ct2, osl2, rfl, lk2, hcg2, _, _⟩ := F2.ex
  subst hq
  refine pe_imp (pe_lamMD (T := C.tb) (TT := TTo C.g oc) (t := tLamB C fb) hg hm2 kp2 lk2 hcg2 hb2 Sg2 hNg2 hva2 hgy hm1 kp1 lk1 hcg1 hb1 Sg1 hNg1 hva1 (hG cdv1 cdv2) TB hcode (by rw [htb]; exact List.mem_singleton.mpr rfl) (fun p hp _ => by rw [htb] at hp; rw [List.mem_singleton.mp hp]) hr L hdef hdk hbind (fun A outer s H E f c' hr2 => ?_) hdb hdb1 hd hcd hd1 hcd1) fun σ H Q ⟨own, F, e, g, S, o⟩ => err_tree S o
  refine ⟨fun pins s2 σ H2 Q I ⟨H0, A0, own, F2, e, g2, S, o⟩ => (hfb A outer s H E f c' H0 A0 hr2).run pins s2 σ H2 Q I ⟨own, F2, e, g2, ⟨S.len, S.sl, S.on, S.ph, S.inj, S.fin, S.h0, S.fr, S.io, S.tb, S.ih, S.rg⟩, ?_⟩⟩
  unfold OutE at o ⊢
  cases hf : fb e g2 with
  | ok p => rw [hf] at o; exact fun H' v x S' r => o H' v x ⟨S'.len, S'.sl, S'.on, S'.ph, S'.inj, S'.fin, S'.h0, S'.fr, S'.io, S'.tb, S'.ih, S'.rg⟩ r
  | err y => rw [hf] at o; exact fun H' c dd x ⟨g', S'⟩ r => o H' c dd x ⟨g', ⟨S'.len, S'.sl, S'.on, S'.ph, S'.inj, S'.fin, S'.h0, S'.fr, S'.io, S'.tb, S'.ih, S'.rg⟩⟩ r
  | stuck => rw [hf] at o; exact o
end
end DL

set_option Elab.async false
set_option linter.all false
set_option maxRecDepth 100000
/-! DL13: facts of the head; defs and constants by them; the law's end. -/
namespace DL
open PySem PySem.Spec PyProof.Rows L2
theorem CalD.cal {P : Program} {w : World} {K : PySem.W.Frag} {mg : Str → Option Value} {base : Heap} {k : Nat} {x : Str} {st : Stmt} {dvs : List V} {kws : List (Str × V)} {f : Addr} {ps : List Str} {sp : Sp} (h : CalD P w K mg base k x st dvs kws f ps sp)
    (hb : ∀ fd, FunD K x x (defArgs st) (defBody st) (defScope st) dvs kws f fd → L2.Binds K fd ps []) : Cal P w K mg base k f ps sp := by
  obtain ⟨fd, F1, F2⟩ := h
  exact ⟨fd, F1, hb fd F2⟩
theorem CalD.mk' {P : Program} {w : World} {K : PySem.W.Frag} {mg : Str → Option Value} {base : Heap} {k : Nat} {x : Str} {st : Stmt} {dvs : List V} {kws : List (Str × V)} {f : Addr} {ps : List Str} {sp : Sp} {fd : FuncData} (h : FnOk P w K mg base (L2N.CX P w) k f fd ps sp)
    (F : FunD K x x (defArgs st) (defBody st) (defScope st) dvs kws f fd) : CalD P w K mg base k x st dvs kws f ps sp := ⟨fd, h, F⟩
theorem ex_at {l : List (PySem.W.Frag → Bool)} {K : PySem.W.Frag} (h : (l.all fun f => f K) = true) (i : Nat) {f : PySem.W.Frag → Bool} (e : l[i]? = some f := by rfl) : f K = true := List.all_eq_true.mp h f (List.mem_of_getElem? e)
theorem rep_tupB {K : PySem.W.Frag} {cm : Str → Option Addr} {tb : List (Addr × Str)} {x : Str} {vs : List He.Dv} {l : List D} (h : He.tupB K x vs = true) (hl : ∀ H A, RepL ⟨K, cm, tb⟩ H A l (vs.map (He.Dv.v K))) : ∀ H A, Rep ⟨K, cm, tb⟩ H A (.tup l) (.ref (He.ga K x)) :=
  fun H A => .tup_ (He.tupB_ok h H) (hl H A)
theorem roomU {k : Nat} {A : Around} (h : Room k A) : A.units + 65 < cLine := by have := h.un; omega
theorem roomHU {k : Nat} {A : Around} (h : L2H.RoomH k A) : A.units + 65 < cLine := by have := h.un; omega
theorem takes0N {X : Cx} : L2N.Takes X (fun _ _ _ _ => False) := fun _ _ x => by
  obtain ⟨_, _, _, _, _, _, _, _, _, _, _, _, _, _, _, _, _, w⟩ := x
/-- the law's end -/
theorem law_end {l : PySem.W.OpenLaw} {w : World} {K : PySem.W.Frag} {mg : Str → Option Value} {fa : Addr} {h : Heap} {st : Stmt} {kws : List (Str × V)} {fd : FuncData} {k : Nat}
    (F : FunD K "law" "law" (defArgs st) (defBody st) (defScope st) [] kws fa fd)
    (hb : ∀ (kV doc pm : Value) (an : Option Addr) (cdv ct : Value) (us : List Value), us.length = 1 → bindArgs (PySem.W.fnOf "law" "law" (defArgs st) (defBody st) (defScope st) .none kV doc pm an cdv ct) ⟨us, []⟩ = pure ((["_law_script"] : List Str).zip us))
    (ok : ∀ base : Heap, K.In base → base.Ns mainGlobals mg → FnOk l.prog w K mg base (L2N.CX l.prog w) k fa fd ["_law_script"] (spLaw K [])) : LamX.LawAtS l w K (L2N.CX l.prog w) k 63 "_law_script" mg fa h :=
  ⟨fd, [], spLaw K [], fun p hp => (List.not_mem_nil hp).elim, fun p hp => (List.not_mem_nil hp).elim, fun p hp => (List.not_mem_nil hp).elim, fun s u => F.bindsA (ps := ["_law_script"]) hb s [u] rfl, fun H a ns hl _ _ hS => ⟨a, ns, rfl, fun p hp => (List.not_mem_nil hp).elim, hS, hl, fun _ => rfl⟩, fun base kb nb _ => ok base kb nb⟩
/-- .. where it holds lambdas: its code object at c, the table at P -/
theorem law_endT {l : PySem.W.OpenLaw} {w : World} {K : PySem.W.Frag} {mg : Str → Option Value} {fa c P : Addr} {q : Str} {h : Heap} {st : Stmt} {kws : List (Str × V)} {fd : FuncData} {k : Nat}
    (F : FunD K "law" "law" (defArgs st) (defBody st) (defScope st) [] kws fa fd) (h1 : h.get? P = some { cls := .none, data := .fields #[] }) (h2 : K.lookup P = none) (h3 : PySem.W.CodeHd h c P)
    (hb : ∀ (kV doc pm : Value) (an : Option Addr) (cdv ct : Value) (us : List Value), us.length = 1 → bindArgs (PySem.W.fnOf "law" "law" (defArgs st) (defBody st) (defScope st) .none kV doc pm an cdv ct) ⟨us, []⟩ = pure ((["_law_script"] : List Str).zip us))
    (ok : ∀ base : Heap, K.In base → base.Ns mainGlobals mg → LamX.TabB base mg c P → FnOk l.prog w K mg base (L2N.CX l.prog w) k fa fd ["_law_script"] (spLaw K [(P, q)])) : LamX.LawAtS l w K (L2N.CX l.prog w) k 63 "_law_script" mg fa h :=
  ⟨fd, [(c, P)], spLaw K [(P, q)], fun p hp => by rw [List.mem_singleton.mp hp]; exact h1, fun p hp => by rw [List.mem_singleton.mp hp]; exact h2, fun p hp => by rw [List.mem_singleton.mp hp]; exact h3, fun s u => F.bindsA (ps := ["_law_script"]) hb s [u] rfl,
    fun H a ns hl _ hT hS => ⟨a, ns, rfl, fun p hp => by rw [List.mem_singleton.mp hp]; exact LamX.TabS.nil (hT (c, P) (List.mem_singleton.mpr rfl)), hS, hl, fun _ => rfl⟩, fun base kb nb hT => ok base kb nb (hT (c, P) (List.mem_singleton.mpr rfl))⟩
theorem code_of {K : PySem.W.Frag} {p : Str × Option Str} {x qual : Str} {params : Arguments} {body : List Stmt} {scope : Scope} {dvs : List V} {kws : List (Str × V)} {fd : FuncData} (F : FunD K x qual params body scope dvs kws (He.fAd K p) fd) : fd.code = .ref (He.codeOf K p) := by
  obtain ⟨oc, od, dV, kV, doc, pm, an, cdv, ct, osl, rfl, lk, hcd, _, _⟩ := F.ex
  cases cdv <;> first | exact congrArg Value.ref (He.codeOf_eq lk rfl).symm | (unfold PySem.W.codeIn at hcd; cases hcd)
/-! ### what the head shows of an exception class -/
theorem taker_of {K : PySem.W.Frag} {C : Addr} {f : Str} (h : PySem.W.findIn K (.ref C) f = some none) : PySem.W.takerIn K C f = some none := by
  unfold PySem.W.takerIn
  rw [h]; rfl
theorem xcB_ok {b : Bs} {x : Str} {fs : List Str} {K : PySem.W.Frag} (h : xcB b x fs K = true) (ht : ("tag" : Str) ∈ fs) : XcI K (He.ga K x) b (He.ma K (He.ga K x) "__init__") ∧ ∀ f ∈ fs, PySem.W.takerIn K (He.ga K x) f = some none ∧ PySem.W.findIn K (.ref (He.ga K x)) f = some none := by
  obtain ⟨h1, h⟩ := Bool.and_eq_true_iff.mp h
  obtain ⟨h2, h⟩ := Bool.and_eq_true_iff.mp h
  obtain ⟨h3, h⟩ := Bool.and_eq_true_iff.mp h
  obtain ⟨h4, h⟩ := Bool.and_eq_true_iff.mp h
  obtain ⟨h5, h⟩ := Bool.and_eq_true_iff.mp h
  obtain ⟨h6, h⟩ := Bool.and_eq_true_iff.mp h
  obtain ⟨h7, h⟩ := Bool.and_eq_true_iff.mp h
  obtain ⟨h8, h9⟩ := Bool.and_eq_true_iff.mp h
  have xf := L2.xfB_ok h8
  have fd : ∀ f ∈ fs, PySem.W.findIn K (.ref (He.ga K x)) f = some none := fun f hf => of_decide_eq_true (List.all_eq_true.mp h9 f hf)
  exact ⟨{ q := h1, ov := h2, hd := xf.hdC, sa := of_decide_eq_true h3, ex := xf.exC, ty := of_decide_eq_true h4, kp := h5, ini := of_decide_eq_true h6, fn := of_decide_eq_true h7, tag := taker_of (fd _ ht), xf := xf, ft := fd _ ht }, fun f hf => ⟨taker_of (fd f hf), fd f hf⟩⟩
/-- the exception classes by name -/
def cmX (K : PySem.W.Frag) (ns : List Str) : Str → Option Addr := fun s => if s ∈ ns then some (He.ga K s) else none
theorem cmX_at {K : PySem.W.Frag} {ns : List Str} {s : Str} (h : s ∈ ns := by decide) : cmX K ns s = some (He.ga K s) := if_pos h
theorem selB_ok {ns cs : List Str} {sel : Str → Bool} {K : PySem.W.Frag} (h : selB ns cs sel K = true) : ∀ c Ca, cmX K ns c = some Ca → PySem.W.exmAny K (.ref Ca) (cs.map fun c => .ref (He.ga K c)) = some (sel c) := fun c Ca e => by
  unfold cmX at e
  by_cases hc : c ∈ ns
  · rw [if_pos hc] at e
    cases e
    exact of_decide_eq_true (List.all_eq_true.mp h c hc)
  · rw [if_neg hc] at e; cases e
theorem isoB_ok {ns exns : List Str} {cls : Str} {K : PySem.W.Frag} (h : isoB ns cls K = true) : IsoC K (cmX K exns) ns cls (He.ga K cls) := by
  obtain ⟨h1, h⟩ := Bool.and_eq_true_iff.mp h
  obtain ⟨h2, h⟩ := Bool.and_eq_true_iff.mp h
  obtain ⟨h3, h4⟩ := Bool.and_eq_true_iff.mp h
  refine ⟨fun t ht => ?_, fun c hc C e => ?_, of_decide_eq_true h3, of_decide_eq_true h4⟩
  · obtain ⟨q1, q2⟩ := Bool.and_eq_true_iff.mp (List.all_eq_true.mp h1 t ht)
    exact ⟨of_decide_eq_true q1, q2⟩
  · unfold cmX at e
    have e1 : C = He.ga K c := by
      split at e
      · cases e; rfl
      · cases e
    subst e1
    obtain ⟨q1, q⟩ := Bool.and_eq_true_iff.mp (List.all_eq_true.mp h2 c hc)
    obtain ⟨q2, q⟩ := Bool.and_eq_true_iff.mp q
    obtain ⟨q3, q⟩ := Bool.and_eq_true_iff.mp q
    obtain ⟨q4, q⟩ := Bool.and_eq_true_iff.mp q
    obtain ⟨q5, q⟩ := Bool.and_eq_true_iff.mp q
    obtain ⟨q6, q⟩ := Bool.and_eq_true_iff.mp q
    obtain ⟨q7, q8⟩ := Bool.and_eq_true_iff.mp q
    exact ⟨⟨q1, q2, q3, of_decide_eq_true q4⟩, of_decide_eq_true q5, of_decide_eq_true q6, of_decide_eq_true q7, q8⟩
end DL

set_option Elab.async false
set_option linter.all false
set_option maxRecDepth 100000
/-! DLp: reckoning with what defs compute on trees. -/
namespace DL
open PySem L2
@[simp] theorem bind_ok {α β : Type} (a : α) (k : α → Res β) : (Res.ok a).bind k = k a := rfl
@[simp] theorem bind_err {α β : Type} (x : Exc) (k : α → Res β) : (Res.err x : Res α).bind k = .err x := rfl
@[simp] theorem bind_stuck {α β : Type} (k : α → Res β) : (Res.stuck : Res α).bind k = .stuck := rfl
@[simp] theorem pureG_ok' {α : Type} (a : α) (g : Rng) : pureG (.ok a) g = .ok (a, g) := rfl
@[simp] theorem pureG_err {α : Type} (x : Exc) (g : Rng) : pureG (.err x : Res α) g = .err x := rfl
@[simp] theorem pureG_stuck {α : Type} (g : Rng) : pureG (.stuck : Res α) g = .stuck := rfl
/-- it ends well, and so -/
@[irreducible] def WG {α : Type} (r : Res (α × Rng)) (Q : α → Rng → Prop) : Prop := match r with
  | .ok p => Q p.1 p.2
  | _ => False
@[irreducible] def WV {α : Type} (r : Res α) (Q : α → Prop) : Prop := match r with
  | .ok p => Q p
  | _ => False
section
variable {α β : Type} {Q : α → Rng → Prop} {Q' : α → Prop}
@[simp] theorem WG_ok (p : α × Rng) : WG (.ok p) Q = Q p.1 p.2 := by unfold WG; rfl
@[simp] theorem WG_err (x : Exc) : WG (.err x) Q = False := by unfold WG; rfl
@[simp] theorem WG_stuck : WG .stuck Q = False := by unfold WG; rfl
@[simp] theorem WV_ok (p : α) : WV (.ok p) Q' = Q' p := by unfold WV; rfl
@[simp] theorem WV_err (x : Exc) : WV (.err x) Q' = False := by unfold WV; rfl
@[simp] theorem WV_stuck : WV .stuck Q' = False := by unfold WV; rfl
@[simp] theorem WG_bind (r : Res (β × Rng)) (k : β × Rng → Res (α × Rng)) : WG (r.bind k) Q = WG r (fun b g => WG (k (b, g)) Q) := by cases r <;> simp only [bind_ok, bind_err, bind_stuck, WG_ok, WG_err, WG_stuck, WV_ok, WV_err, WV_stuck, pureG_ok', pureG_err, pureG_stuck]
@[simp] theorem WG_bindV (r : Res (List D)) (k : List D → Res (α × Rng)) : WG (r.bind k) Q = WV r (fun b => WG (k b) Q) := by cases r <;> simp only [bind_ok, bind_err, bind_stuck, WG_ok, WG_err, WG_stuck, WV_ok, WV_err, WV_stuck, pureG_ok', pureG_err, pureG_stuck]
@[simp] theorem WV_bind (r : Res (β × Rng)) (k : β × Rng → Res α) : WV (r.bind k) Q' = WG r (fun b g => WV (k (b, g)) Q') := by cases r <;> simp only [bind_ok, bind_err, bind_stuck, WG_ok, WG_err, WG_stuck, WV_ok, WV_err, WV_stuck, pureG_ok', pureG_err, pureG_stuck]
@[simp] theorem WV_bindO (r : Res Out) (k : Out → Res α) : WV (r.bind k) Q' = WV r (fun b => WV (k b) Q') := by cases r <;> simp only [bind_ok, bind_err, bind_stuck, WG_ok, WG_err, WG_stuck, WV_ok, WV_err, WV_stuck, pureG_ok', pureG_err, pureG_stuck]
@[simp] theorem WG_bindO (r : Res Out) (k : Out → Res (α × Rng)) : WG (r.bind k) Q = WV r (fun b => WG (k b) Q) := by cases r <;> simp only [bind_ok, bind_err, bind_stuck, WG_ok, WG_err, WG_stuck, WV_ok, WV_err, WV_stuck, pureG_ok', pureG_err, pureG_stuck]
theorem WV_bindV (r : Res β) (k : β → Res α) : WV (r.bind k) Q' = WV r (fun b => WV (k b) Q') := by cases r <;> simp only [bind_ok, bind_err, bind_stuck, WG_ok, WG_err, WG_stuck, WV_ok, WV_err, WV_stuck, pureG_ok', pureG_err, pureG_stuck]
@[simp] theorem WG_pureG (r : Res α) (g : Rng) : WG (pureG r g) Q = WV r (fun a => Q a g) := by cases r <;> simp only [bind_ok, bind_err, bind_stuck, WG_ok, WG_err, WG_stuck, WV_ok, WV_err, WV_stuck, pureG_ok', pureG_err, pureG_stuck]
@[simp] theorem WG_ite (c : Prop) [Decidable c] (a b : Res (α × Rng)) : WG (if c then a else b) Q = if c then WG a Q else WG b Q := by split <;> rfl
@[simp] theorem WV_ite (c : Prop) [Decidable c] (a b : Res α) : WV (if c then a else b) Q' = if c then WV a Q' else WV b Q' := by split <;> rfl
theorem WG.mono {r : Res (α × Rng)} {Q Q2 : α → Rng → Prop} (h : WG r Q) (i : ∀ a g, Q a g → Q2 a g) : WG r Q2 := by
  unfold WG at h ⊢
  cases r with
  | ok p => exact i _ _ h
  | err x => exact h
  | stuck => exact h
theorem WV.mono {r : Res α} {Q Q2 : α → Prop} (h : WV r Q) (i : ∀ a, Q a → Q2 a) : WV r Q2 := by
  unfold WV at h ⊢
  cases r with
  | ok p => exact i _ h
  | err x => exact h
  | stuck => exact h
theorem WG.get {r : Res (α × Rng)} {Q : α → Rng → Prop} (h : WG r Q) : ∃ a g, r = .ok (a, g) ∧ Q a g := by
  unfold WG at h
  cases r with
  | ok p => exact ⟨p.1, p.2, rfl, h⟩
  | err x => exact h.elim
  | stuck => exact h.elim
theorem WV.get {r : Res α} {Q : α → Prop} (h : WV r Q) : ∃ a, r = .ok a ∧ Q a := by
  unfold WV at h
  cases r with
  | ok p => exact ⟨p, rfl, h⟩
  | err x => exact h.elim
  | stuck => exact h.elim
end
section
variable (e : En) (g : Rng)
@[simp] theorem eVar_ (i : Nat) : eVar i e g = match e[i]? with | some (.sh d) => .ok (d, g) | _ => .stuck := rfl
@[simp] theorem eC_ (d : D) : eC d e g = .ok (d, g) := rfl
@[simp] theorem eOp_ (f : D → D → Res D) (a b : ME) : eOp f a b e g = (a e g).bind fun p => (b e p.2).bind fun q => pureG (f p.1 q.1) q.2 := rfl
@[simp] theorem eUn_ (f : D → Res D) (a : ME) : eUn f a e g = (a e g).bind fun p => pureG (f p.1) p.2 := rfl
def toB (p : D × Rng) : Res (Bool × Rng) := match p.1 with
  | .bl b => .ok (b, p.2)
  | _ => .stuck
@[simp] theorem toB_ (b : Bool) : toB (.bl b, g) = .ok (b, g) := rfl
@[simp] theorem eTest_ (a : ME) : eTest a e g = (a e g).bind toB := rfl
@[simp] theorem aNil_ : aNil e g = .ok ([], g) := rfl
@[simp] theorem aCons_ (a : ME) (b : MA) : aCons a b e g = (a e g).bind fun p => (b e p.2).bind fun q => .ok (p.1 :: q.1, q.2) := rfl
@[simp] theorem eCall_ (f : List D → Res D) (a : MA) : eCall f a e g = (a e g).bind fun p => pureG (f p.1) p.2 := rfl
@[simp] theorem tAndM_ (a b : MT) : tAndM a b e g = (a e g).bind fun p => if p.1 = true then b e p.2 else .ok (false, p.2) := rfl
@[simp] theorem tOrM_ (a b : MT) : tOrM a b e g = (a e g).bind fun p => if p.1 = true then .ok (true, p.2) else b e p.2 := rfl
@[simp] theorem tNotM_ (a : MT) : tNotM a e g = (a e g).bind fun p => .ok (!p.1, p.2) := rfl
@[simp] theorem eIf_ (c : MT) (a b : ME) : eIf c a b e g = (c e g).bind fun p => if p.1 = true then a e p.2 else b e p.2 := rfl
def andK (b : ME) (e : En) (p : D × Rng) : Res (D × Rng) := match p.1 with
  | .bl true => b e p.2
  | .bl false => .ok (.bl false, p.2)
  | _ => .stuck
def orK (b : ME) (e : En) (p : D × Rng) : Res (D × Rng) := match p.1 with
  | .bl false => b e p.2
  | .bl true => .ok (.bl true, p.2)
  | _ => .stuck
def notK (p : D × Rng) : Res (D × Rng) := match p.1 with
  | .bl b => .ok (.bl (!b), p.2)
  | _ => .stuck
@[simp] theorem andK_ (b : ME) (v : Bool) : andK b e (.bl v, g) = if v = true then b e g else .ok (.bl false, g) := by cases v <;> rfl
@[simp] theorem orK_ (b : ME) (v : Bool) : orK b e (.bl v, g) = if v = true then .ok (.bl true, g) else b e g := by cases v <;> rfl
@[simp] theorem notK_ (v : Bool) : notK (.bl v, g) = .ok (.bl (!v), g) := rfl
@[simp] theorem eAnd_ (a b : ME) : eAnd a b e g = (a e g).bind (andK b e) := rfl
@[simp] theorem eOr_ (a b : ME) : eOr a b e g = (a e g).bind (orK b e) := rfl
@[simp] theorem eNot_ (a : ME) : eNot a e g = (a e g).bind notK := rfl
@[simp] theorem eTup_ (a : MA) : eTup a e g = (a e g).bind fun p => if p.1.length ≤ 1000 then .ok (.tup p.1, p.2) else .stuck := rfl
@[simp] theorem aLst_ (a : MA) : aLst a e g = (a e g).bind fun p => if p.1.length ≤ 1000 then .ok p else .stuck := rfl
@[simp] theorem eOfL_ (a : MA) : eOfL a e g = (a e g).bind fun p => .ok (.lst p.1, p.2) := rfl
@[simp] theorem eIsi_ (t : Ty) (a : ME) : eIsi t a e g = (a e g).bind fun p => pureG (dIsinst t [p.1]) p.2 := rfl
@[simp] theorem borE_ (B : List Nat) (f : ME) : borE B f e g = match f (borrow B e) g with
  | .ok p => if p.1.noLst = true then .ok p else .stuck
  | .err x => if D.noLstL x.l = true then .err x else .stuck
  | .stuck => .stuck := rfl
def chK (r r' : Int → Int → Bool) (fc : ME) (e : En) (x : D) (q : D × Rng) : Res (D × Rng) := match x, q.1 with
  | .int i, .int j => if r i j = true then (fc e q.2).bind fun s => match s.1 with
      | .int k => .ok (.bl (r' j k), s.2)
      | _ => .stuck
    else .ok (.bl false, q.2)
  | _, _ => .stuck
def chI (f : Int → Bool) (s : D × Rng) : Res (D × Rng) := match s.1 with
  | .int k => .ok (.bl (f k), s.2)
  | _ => .stuck
@[simp] theorem chI_ (f : Int → Bool) (k : Int) : chI f (.int k, g) = .ok (.bl (f k), g) := rfl
@[simp] theorem chK_ (r r' : Int → Int → Bool) (fc : ME) (i j : Int) : chK r r' fc e (.int i) (.int j, g) = if r i j = true then (fc e g).bind (chI (r' j)) else .ok (.bl false, g) := rfl
@[simp] theorem eChain_ (r r' : Int → Int → Bool) (a b c : ME) : eChain r r' a b c e g = (a e g).bind fun p => (b e p.2).bind (chK r r' c e p.1) := by
  unfold eChain
  congr 1
/-! #### operators on numbers -/
@[simp] theorem dAdd_ii (i j : Int) : dAdd (.int i) (.int j) = .ok (.int (i + j)) := rfl
@[simp] theorem dSub_ii (i j : Int) : dSub (.int i) (.int j) = .ok (.int (i - j)) := rfl
@[simp] theorem dLt_ii (i j : Int) : dLtI (.int i) (.int j) = .ok (.bl (decide (i < j))) := rfl
@[simp] theorem dLe_ii (i j : Int) : dLe (.int i) (.int j) = .ok (.bl (decide (i ≤ j))) := rfl
@[simp] theorem dGt_ii (i j : Int) : dGt (.int i) (.int j) = .ok (.bl (decide (j < i))) := rfl
@[simp] theorem dGe_ii (i j : Int) : dGe (.int i) (.int j) = .ok (.bl (decide (j ≤ i))) := rfl
@[simp] theorem dNeg_i (i : Int) : dNeg (.int i) = .ok (.int (-i)) := rfl
theorem dMul_ii (i j : Int) : dMul (.int i) (.int j) = if CMulW i j then .ok (.int (i * j)) else .stuck := rfl
theorem dFDiv_ii (i j : Int) : dFDiv (.int i) (.int j) = if CDivW i j then .ok (.int (i / j)) else .stuck := rfl
theorem dMod_ii (i j : Int) : dMod (.int i) (.int j) = if 0 < j then .ok (.int (i % j)) else .stuck := rfl
theorem dPow_ii (i j : Int) : dPow (.int i) (.int j) = if CPow i j then .ok (.int (i ^ j.toNat)) else .stuck := rfl
@[simp] theorem py_int (i : Int) : (D.int i).py = .int i := by rw [D.py]
@[simp] theorem py_bl (i : Bool) : (D.bl i).py = .bool i := by rw [D.py]
@[simp] theorem py_str (i : Str) : (D.str i).py = .str i := by rw [D.py]
@[simp] theorem py_non : (D.non).py = .none := by rw [D.py]
@[simp] theorem py_tup (l : List D) : (D.tup l).py = .tuple (D.pyL l) := by rw [D.py]
@[simp] theorem py_lst (l : List D) : (D.lst l).py = .list (D.pyL l) := by rw [D.py]
@[simp] theorem pyL_nil : D.pyL [] = [] := by rw [D.pyL]
@[simp] theorem pyL_cons (d : D) (l : List D) : D.pyL (d :: l) = d.py :: D.pyL l := by rw [D.pyL]
@[simp] theorem sh_int (i : Int) : SeqAt.shaped (.int i) = true := by simp [SeqAt.shaped, PyData.canLay0, PyData.depth]
@[simp] theorem sh_bool (i : Bool) : SeqAt.shaped (.bool i) = true := by simp [SeqAt.shaped, PyData.canLay0, PyData.depth]
@[simp] theorem sh_none : SeqAt.shaped .none = true := by simp [SeqAt.shaped, PyData.canLay0, PyData.depth]
@[simp] theorem dEq_ii (i j : Int) : dEq (.int i) (.int j) = .ok (.bl (decide (i = j))) := by simp [dEq, PyData.eqv, Bool.beq_eq_decide_eq]
@[simp] theorem dNe_ii (i j : Int) : dNe (.int i) (.int j) = .ok (.bl (!decide (i = j))) := by simp [dNe, PyData.eqv, Bool.beq_eq_decide_eq]
@[simp] theorem dEq_bb (i j : Bool) : dEq (.bl i) (.bl j) = .ok (.bl (i == j)) := by simp [dEq, PyData.eqv]
@[simp] theorem dNe_bb (i j : Bool) : dNe (.bl i) (.bl j) = .ok (.bl (!(i == j))) := by simp [dNe, PyData.eqv]
@[simp] theorem dIsN_ (x : D) : dIsN x .non = .ok (.bl x.isNon) := rfl
@[simp] theorem dNotN_ (x : D) : dNotN x .non = .ok (.bl (!x.isNon)) := rfl
@[simp] theorem dAbs_ (i : Int) : dAbs [.int i] = .ok (.int (if i < 0 then -i else i)) := rfl
@[simp] theorem dLen_lst (l : List D) : dLen [.lst l] = .ok (.int l.length) := rfl
@[simp] theorem dLen_tup (l : List D) : dLen [.tup l] = .ok (.int l.length) := rfl
@[simp] theorem isi_int (t : Ty) (i : Int) : dIsinst t [.int i] = .ok (.bl (decide (t = .tInt))) := rfl
@[simp] theorem isi_bl (t : Ty) (i : Bool) : dIsinst t [.bl i] = .ok (.bl (t = .tInt || t = .tBool)) := rfl
@[simp] theorem isi_str (t : Ty) (i : Str) : dIsinst t [.str i] = .ok (.bl (decide (t = .tStr))) := rfl
@[simp] theorem isi_tup (t : Ty) (i : List D) : dIsinst t [.tup i] = .ok (.bl (decide (t = .tTup))) := rfl
@[simp] theorem isi_lst (t : Ty) (i : List D) : dIsinst t [.lst i] = .ok (.bl (decide (t = .tList))) := rfl
@[simp] theorem isi_non (t : Ty) : dIsinst t [.non] = .ok (.bl false) := rfl
@[simp] theorem dIx_lst (l : List D) (i : Int) : dIx (.lst l) (.int i) = match atI l i with | some d => .ok d | none => .stuck := rfl
@[simp] theorem dIx_tup (l : List D) (i : Int) : dIx (.tup l) (.int i) = match atI l i with | some d => .ok d | none => .stuck := rfl
@[simp] theorem bools_nil : bools [] = some [] := rfl
@[simp] theorem bools_cons (b : Bool) (l : List D) : bools (.bl b :: l) = (bools l).map (b :: ·) := rfl
@[simp] theorem dAll_ (l : List D) : dAll [.lst l] = match bools l with | some bs => .ok (.bl (bs.all id)) | none => .stuck := rfl
@[simp] theorem dAny_ (l : List D) : dAny [.lst l] = match bools l with | some bs => .ok (.bl (bs.any id)) | none => .stuck := rfl
/-! #### statements -/
def seqK (b : MS) (o : Out) : Res Out := match o with
  | .nx e' g' => b e' g'
  | o => .ok o
@[simp] theorem seqK_nx (b : MS) : seqK b (.nx e g) = b e g := rfl
@[simp] theorem seqK_rt (b : MS) (d : D) : seqK b (.rt d g) = .ok (.rt d g) := rfl
@[simp] theorem seqK_bk (b : MS) : seqK b (.bk e g) = .ok (.bk e g) := rfl
@[simp] theorem seqK_ct (b : MS) : seqK b (.ct e g) = .ok (.ct e g) := rfl
@[simp] theorem sSeq_ (a b : MS) : sSeq a b e g = (a e g).bind (seqK b) := rfl
@[simp] theorem sNx_ : sNx e g = .ok (.nx e g) := rfl
@[simp] theorem sBk_ : sBk e g = .ok (.bk e g) := rfl
@[simp] theorem sCt_ : sCt e g = .ok (.ct e g) := rfl
@[simp] theorem sAsg_ (i : Nat) (f : ME) : sAsg i f e g = (f e g).bind fun p => .ok (.nx (e.set i (.sh p.1)) p.2) := rfl
@[simp] theorem sAsgF_ (i : Nat) (f : MA) : sAsgF i f e g = (f e g).bind fun p => .ok (.nx (e.set i (.ow p.1)) p.2) := rfl
@[simp] theorem sRet_nil (f : ME) : sRet [] f e g = (f e g).bind fun p => .ok (.rt p.1 p.2) := by unfold sRet; rw [borrow_nil]
theorem sRet_ (B : List Nat) (f : ME) : sRet B f e g = (f (borrow B e) g).bind fun p => .ok (.rt p.1 p.2) := rfl
@[simp] theorem sRetN_ : sRetN e g = .ok (.rt .non g) := rfl
@[simp] theorem sDrop_ (f : ME) : sDrop f e g = (f e g).bind fun p => .ok (.nx e p.2) := rfl
@[simp] theorem sIf_ (c : MT) (a b : MS) : sIf c a b e g = (c e g).bind fun p => if p.1 = true then a e p.2 else b e p.2 := rfl
def parK (i j : Nat) (e : En) (p : List D × Rng) : Res Out := match p.1 with
  | [d, d'] => .ok (.nx ((e.set i (.sh d)).set j (.sh d')) p.2)
  | _ => .stuck
@[simp] theorem parK_ (i j : Nat) (d d' : D) : parK i j e ([d, d'], g) = .ok (.nx ((e.set i (.sh d)).set j (.sh d')) g) := rfl
@[simp] theorem sPar_ (i j : Nat) (f : MA) : sPar i j f e g = (f e g).bind (parK i j e) := rfl
@[simp] theorem sFor_ (fi : MA) (tf : TgF) (fb : MS) : sFor fi tf fb e g = (fi e g).bind fun p => forL tf fb p.1 e p.2 := rfl
@[simp] theorem gNm_ (i : Nat) (d : D) : gNm i d e = some (e.set i (.sh d)) := rfl
@[simp] theorem gTp_ (n : Nat) (u : TgFs) (l : List D) : gTp n u (.tup l) e = if l.length = n then u l e else none := rfl
@[simp] theorem gsNil_ : gsNil [] e = some e := rfl
@[simp] theorem gsCons_ (t : TgF) (u : TgFs) (d : D) (r : List D) : gsCons t u (d :: r) e = (t d e).bind fun e' => u r e' := rfl
def iRK (p : List D × Rng) : Res (List D × Rng) := match p.1 with
  | [.int n] => if -100000 ≤ n ∧ n ≤ 100000 then .ok (rangeD 0 n.toNat, p.2) else .stuck
  | [.int m, .int n] => if -100000 ≤ m ∧ m ≤ 100000 ∧ -100000 ≤ n ∧ n ≤ 100000 then .ok (rangeD m (n - m).toNat, p.2) else .stuck
  | _ => .stuck
@[simp] theorem iRK_1 (n : Int) : iRK ([.int n], g) = if -100000 ≤ n ∧ n ≤ 100000 then .ok (rangeD 0 n.toNat, g) else .stuck := rfl
@[simp] theorem iRK_2 (m n : Int) : iRK ([.int m, .int n], g) = if -100000 ≤ m ∧ m ≤ 100000 ∧ -100000 ≤ n ∧ n ≤ 100000 then .ok (rangeD m (n - m).toNat, g) else .stuck := rfl
@[simp] theorem iRange_ (f : MA) : iRange f e g = (f e g).bind iRK := rfl
@[simp] theorem iSeqD_ (f : ME) : iSeqD f e g = (f e g).bind fun p => (dItems p.1).bind fun l => .ok (l, p.2) := rfl
@[simp] theorem iZipD_ (f : MA) : iZipD f e g = (f e g).bind fun p => (dZip p.1).bind fun l => .ok (l, p.2) := rfl
@[simp] theorem iEnumD_ (f : MA) : iEnumD f e g = (f e g).bind fun p => (dEnum p.1).bind fun l => .ok (l, p.2) := rfl
@[simp] theorem dItems_lst (l : List D) : dItems (.lst l) = .ok l := rfl
@[simp] theorem dItems_tup (l : List D) : dItems (.tup l) = .ok l := rfl
@[simp] theorem dItems_str (z : Str) : dItems (.str z) = .ok (strD z) := rfl
@[simp] theorem dZip_ll (l m : List D) : dZip [.lst l, .lst m] = .ok ((l.zip m).map fun q => .tup [q.1, q.2]) := rfl
@[simp] theorem dZip_tt (l m : List D) : dZip [.tup l, .tup m] = .ok ((l.zip m).map fun q => .tup [q.1, q.2]) := rfl
@[simp] theorem mTrue_ : mTrue e g = .ok (true, g) := rfl
@[simp] theorem resD_rt (d : D) : resD (.ok (.rt d g)) = .ok d := rfl
@[simp] theorem resD_nx : resD (.ok (.nx e g)) = .ok .non := rfl
@[simp] theorem resG_rt (d : D) : resG (.ok (.rt d g)) = .ok (d, g) := rfl
end
/-- loops by an invariant -/
def outFor (I : En → Rng → Prop) (Q : Out → Prop) : Out → Prop
  | .nx e g => I e g
  | .ct e g => I e g
  | .bk e g => Q (.nx e g)
  | .rt d g => Q (.rt d g)
theorem WV_for {tf : TgF} {fb : MS} {Q : Out → Prop} (I : En → Rng → Prop) : ∀ {ds : List D} {e : En} {g : Rng}, I e g → (∀ d, d ∈ ds → ∀ e g, I e g → ∃ e', tf d e = some e' ∧ WV (fb e' g) (outFor I Q)) → (∀ e g, I e g → Q (.nx e g)) → WV (forL tf fb ds e g) Q
  | [], e, g, h0, _, hd => by rw [forL, WV_ok]; exact hd e g h0
  | d :: ds, e, g, h0, hs, hd => by
    obtain ⟨e', h1, h2⟩ := hs d List.mem_cons_self e g h0
    rw [forL]
    simp only [h1]
    obtain ⟨o, ho, hq⟩ := h2.get
    rw [ho]
    have hs' : ∀ d, d ∈ ds → ∀ e g, I e g → ∃ e', tf d e = some e' ∧ WV (fb e' g) (outFor I Q) := fun d hd' => hs d (List.mem_cons_of_mem _ hd')
    cases o with
    | nx e2 g2 => exact WV_for I hq hs' hd
    | ct e2 g2 => exact WV_for I hq hs' hd
    | bk e2 g2 => show WV (.ok _) _; rw [WV_ok]; exact hq
    | rt d2 g2 => show WV (.ok _) _; rw [WV_ok]; exact hq
end DL
namespace DL
open PySem L2
@[simp] theorem isNon_int (i : Int) : (D.int i).isNon = false := rfl
@[simp] theorem isNon_bl (i : Bool) : (D.bl i).isNon = false := rfl
@[simp] theorem isNon_str (i : Str) : (D.str i).isNon = false := rfl
@[simp] theorem isNon_non : (D.non).isNon = true := rfl
@[simp] theorem isNon_tup (i : List D) : (D.tup i).isNon = false := rfl
@[simp] theorem isNon_lst (i : List D) : (D.lst i).isNon = false := rfl
@[simp] theorem sh_str (i : Str) : SeqAt.shaped (.str i) = PyData.strOk i := by simp [SeqAt.shaped, PyData.canLay0, PyData.depth]
theorem dEq_ss {i j : Str} (h : PyData.strOk i = true) (h' : PyData.strOk j = true) : dEq (.str i) (.str j) = .ok (.bl (i == j)) := by simp [dEq, PyData.eqv, h, h']
theorem dNe_ss {i j : Str} (h : PyData.strOk i = true) (h' : PyData.strOk j = true) : dNe (.str i) (.str j) = .ok (.bl (!(i == j))) := by simp [dNe, PyData.eqv, h, h']
@[simp] theorem noErr_ok {α : Type} (a : α) : noErr (.ok a) = .ok a := rfl
theorem aLc_ {vs : List Nat} {fi : MA} {tf : TgF} {ft : MT} {fe : ME} {e : En} {g : Rng} : aLc vs fi tf ft fe e g = (fi e g).bind fun p =>
  if (vs.all fun v => match e[v]? with | some s => !s.isOw | none => false) = true ∧ p.1.length ≤ 1000 then noErr (lcL tf ft fe p.1 (wipeE e vs) p.2) else .stuck := rfl
@[simp] theorem outFor_nx (I : En → Rng → Prop) (Q : Out → Prop) (e : En) (g : Rng) : outFor I Q (.nx e g) = I e g := rfl
@[simp] theorem outFor_ct (I : En → Rng → Prop) (Q : Out → Prop) (e : En) (g : Rng) : outFor I Q (.ct e g) = I e g := rfl
@[simp] theorem outFor_bk (I : En → Rng → Prop) (Q : Out → Prop) (e : En) (g : Rng) : outFor I Q (.bk e g) = Q (.nx e g) := rfl
@[simp] theorem outFor_rt (I : En → Rng → Prop) (Q : Out → Prop) (d : D) (g : Rng) : outFor I Q (.rt d g) = Q (.rt d g) := rfl
def rtI (P : D → Rng → Prop) : Out → Prop
  | .rt d g => P d g
  | _ => False
@[simp] theorem rtI_rt (P : D → Rng → Prop) (d : D) (g : Rng) : rtI P (.rt d g) = P d g := rfl
@[simp] theorem rtI_nx (P : D → Rng → Prop) (e : En) (g : Rng) : rtI P (.nx e g) = False := rfl
def intI (P : Int → Prop) : D → Prop
  | .int z => P z
  | _ => False
@[simp] theorem intI_int (P : Int → Prop) (z : Int) : intI P (.int z) = P z := rfl
theorem intI_get {P : Int → Prop} {d : D} (h : intI P d) : ∃ z, d = .int z ∧ P z := by
  cases d <;> first | exact h.elim | exact ⟨_, rfl, h⟩
theorem WG_resG {r : Res Out} {Q : D → Rng → Prop} (h : WV r (rtI Q)) : WG (resG r) Q := by
  obtain ⟨o, rfl, hq⟩ := h.get
  cases o with
  | rt d g => show WG (.ok (d, g)) Q; rw [WG_ok]; exact hq
  | nx e g => exact hq.elim
  | bk e g => exact hq.elim
  | ct e g => exact hq.elim
theorem WV_resD {r : Res Out} {Q : D → Prop} (h : WV r (rtI fun d _ => Q d)) : WV (resD r) Q := by
  obtain ⟨o, rfl, hq⟩ := h.get
  cases o with
  | rt d g => show WV (.ok d) Q; rw [WV_ok]; exact hq
  | nx e g => exact hq.elim
  | bk e g => exact hq.elim
  | ct e g => exact hq.elim
theorem cmulW_64 {i j : Int} (h1 : -18446744073709551616 < i) (h2 : i < 18446744073709551616) (h3 : -18446744073709551616 < j) (h4 : j < 18446744073709551616) : CMulW i j :=
  wide_mul (a := 64) (b := 64) (by show _ < 18446744073709551616; omega) (by show _ < 18446744073709551616; omega) (by decide) (by decide) (by decide)
theorem dMul_64 {i j : Int} (h1 : -18446744073709551616 < i) (h2 : i < 18446744073709551616) (h3 : -18446744073709551616 < j) (h4 : j < 18446744073709551616) : dMul (.int i) (.int j) = .ok (.int (i * j)) := by
  rw [dMul_ii, if_pos (cmulW_64 h1 h2 h3 h4)]
theorem cdivW_64 {i j : Int} (h : 0 < j) (h4 : j < 18446744073709551616) : CDivW i j := wide_div (b := 64) h (by show _ < 18446744073709551616; omega) (by decide) (by decide)
theorem dFDiv_64 {i j : Int} (h : 0 < j) (h4 : j < 18446744073709551616) : dFDiv (.int i) (.int j) = .ok (.int (i / j)) := by
  rw [dFDiv_ii, if_pos (cdivW_64 h h4)]
theorem dMod_pos {i j : Int} (h : 0 < j) : dMod (.int i) (.int j) = .ok (.int (i % j)) := by
  rw [dMod_ii, if_pos h]
@[simp] theorem dPow_18 : dPow (.int 10) (.int 18) = .ok (.int 1000000000000000000) := by rw [dPow_ii, if_pos (by decide)]; rfl
@[simp] theorem dPow_12 : dPow (.int 10) (.int 12) = .ok (.int 1000000000000) := by rw [dPow_ii, if_pos (by decide)]; rfl
theorem atI_some {α : Type} {l : List α} {i : Int} (h0 : 0 ≤ i) (h1 : i < l.length) : ∃ x, atI l i = some x := by
  unfold atI ixN
  rw [if_pos h0, if_pos h1]
  exact ⟨_, List.getElem?_eq_getElem (by omega)⟩
theorem sq_bound {s : Int} (h0 : 0 ≤ s) (h1 : s < 2147483563) : 0 ≤ s * s ∧ s * s < 4611685652037613969 := by
  constructor
  · exact Int.mul_nonneg h0 h0
  · have h2 : s * s ≤ s * 2147483562 := Int.mul_le_mul_of_nonneg_left (by omega) h0
    omega
end DL
namespace DL
theorem runG_ok {n k : Nat} {b : MS} {ds : List D} {g : Rng} (h : ds.length + 1 = k) : runG n k b ds g = resG (b (envG n ds) g) := if_pos h
theorem runD_ok {n k : Nat} {b : MS} {ds : List D} (h : ds.length = k) : runD n k b ds = resD (b (env0 n ds) g0) := if_pos h
end DL
namespace DL
theorem WG_runG {n k : Nat} {b : MS} {ds : List D} {g : Rng} {Q : D → Rng → Prop} (h : ds.length + 1 = k) (w : WV (b (envG n ds) g) (rtI Q)) : WG (runG n k b ds g) Q := by
  rw [runG, if_pos h]; exact WG_resG w
theorem WV_runD {n k : Nat} {b : MS} {ds : List D} {Q : D → Prop} (h : ds.length = k) (w : WV (b (env0 n ds) g0) (rtI fun d _ => Q d)) : WV (runD n k b ds) Q := by
  rw [runD, if_pos h]; exact WV_resD w
end DL
namespace DL
open PySem L2
def noE (m : List D → Rng → Res (D × Rng)) (p : List D × Rng) : Res (D × Rng) := match m p.1 p.2 with
  | .ok q => .ok q
  | _ => .stuck
@[simp] theorem WG_noE (m : List D → Rng → Res (D × Rng)) (p : List D × Rng) (Q : D → Rng → Prop) : WG (noE m p) Q = WG (m p.1 p.2) Q := by
  unfold noE
  cases m p.1 p.2 <;> simp only [WG_ok, WG_err, WG_stuck]
@[simp] theorem eCallG_ (i : Nat) (m : List D → Rng → Res (D × Rng)) (fs : MA) (e : En) (g : Rng) : eCallG i m fs e g = match e[i]? with
  | some .rng => (fs e g).bind (noE m)
  | _ => .stuck := rfl
/-- a pair of ints -/
def fracI (P : Int → Int → Prop) : D → Prop
  | .tup [.int n, .int d] => P n d
  | _ => False
@[simp] theorem fracI_ (P : Int → Int → Prop) (n d : Int) : fracI P (.tup [.int n, .int d]) = P n d := rfl
theorem fracI_get {P : Int → Int → Prop} {x : D} (h : fracI P x) : ∃ n d, x = .tup [.int n, .int d] ∧ P n d := by
  unfold fracI at h
  split at h
  · exact ⟨_, _, rfl, h⟩
  · exact h.elim
end DL
namespace DL
open PySem PySem.Spec PyProof.Rows L2
theorem dLen_str {z : Str} (h : z.length ≤ 16777216) : dLen [.str z] = .ok (.int z.length) := if_pos h
theorem dIx_str {z : Str} {i : Int} (h : z.length ≤ 16777216) (h0 : 0 ≤ i) (h1 : i < z.length) : ∃ c, c ∈ z.cps.toList ∧ dIx (.str z) (.int i) = .ok (.str ⟨#[c]⟩) := by
  obtain ⟨c, hc⟩ := atI_some (l := z.cps.toList) h0 (by simpa [Str.length] using h1)
  refine ⟨c, ?_, ?_⟩
  · unfold atI at hc
    cases hn : ixN z.cps.toList.length i with
    | none => rw [hn] at hc; cases hc
    | some j => rw [hn] at hc; exact List.mem_of_getElem? hc
  · unfold dIx
    simp only [hc, h, if_true]
@[simp] theorem dInS_ss (i j : Str) : dInS (.str i) (.str j) = .ok (.bl (hasSub j i)) := rfl
theorem dInS_st {i : Str} {l : List D} (h : l.all D.isFlat = true) : dInS (.str i) (.tup l) = .ok (.bl (dMem (.str i) l)) := by
  have h1 : (D.str i).isFlat = true ∧ l.all D.isFlat = true := ⟨rfl, h⟩
  show (match (if (D.str i).isFlat = true ∧ l.all D.isFlat = true then some (dMem (.str i) l) else none) with
    | some b => Res.ok (D.bl b)
    | none => Res.stuck) = _
  rw [if_pos h1]
theorem lcL_map {tf : TgF} {fe : ME} {e : En} {g : Rng} {F : D → D} : ∀ {ds : List D}, (∀ d, d ∈ ds → ∃ e1, tf d e = some e1 ∧ fe e1 g = .ok (F d, g)) → lcL tf mTrue fe ds e g = .ok (ds.map F, g)
  | [], _ => by rw [lcL]; rfl
  | d :: ds, h => by
    obtain ⟨e1, h1, h2⟩ := h d List.mem_cons_self
    rw [lcL]
    simp only [h1, mTrue_, bind_ok, if_true, h2]
    rw [lcL_map fun x hx => h x (List.mem_cons_of_mem _ hx)]
    rfl
theorem WG_lcL {tf : TgF} {fe : ME} {e : En} (I : Rng → Prop) (P : D → Prop) : ∀ {ds : List D} {g : Rng}, I g → (∀ d, d ∈ ds → ∀ g, I g → ∃ e1, tf d e = some e1 ∧ WG (fe e1 g) (fun x g' => I g' ∧ P x)) → WG (lcL tf mTrue fe ds e g) (fun l g' => I g' ∧ l.length = ds.length ∧ ∀ x, x ∈ l → P x)
  | [], g, hg, _ => by rw [lcL, WG_ok]; exact ⟨hg, rfl, fun x hx => (List.not_mem_nil hx).elim⟩
  | d :: ds, g, hg, h => by
    obtain ⟨e1, h1, h2⟩ := h d List.mem_cons_self g hg
    rw [lcL]
    simp only [h1, mTrue_, bind_ok, if_true, WG_bind]
    refine h2.mono fun x g1 ⟨i1, p1⟩ => ?_
    refine (WG_lcL I P i1 fun y hy => h y (List.mem_cons_of_mem _ hy)).mono fun l g2 ⟨i2, l2, p2⟩ => ?_
    rw [WG_ok]
    refine ⟨i2, by simp [l2], fun y hy => ?_⟩
    rcases List.mem_cons.mp hy with rfl | hy
    · exact p1
    · exact p2 y hy
theorem WG_noErr {r : Res (List D × Rng)} {Q : List D → Rng → Prop} (h : WG r Q) : WG (noErr r) Q := by
  obtain ⟨a, g, rfl, hq⟩ := h.get
  rw [noErr_ok, WG_ok]; exact hq
theorem lcL_then {tf : TgF} {fe : ME} {e : En} {Q : List D → Rng → Prop} {ds : List D} {g : Rng} (I : Rng → Prop) (P : D → Prop) (hg : I g) (h : ∀ d, d ∈ ds → ∀ g, I g → ∃ e1, tf d e = some e1 ∧ WG (fe e1 g) (fun x g' => I g' ∧ P x))
    (k : ∀ l g', I g' → l.length = ds.length → (∀ x, x ∈ l → P x) → Q l g') : WG (noErr (lcL tf mTrue fe ds e g)) Q := WG_noErr ((WG_lcL I P hg h).mono fun l g' ⟨h1, h2, h3⟩ => k l g' h1 h2 h3)
theorem strL_of : ∀ {l : List D}, (∀ x, x ∈ l → ∃ z, x = .str z) → ∃ ys : List Str, strL l = some ys ∧ l = ys.map D.str
  | [], _ => ⟨[], rfl, rfl⟩
  | d :: l, h => by
    obtain ⟨z, rfl⟩ := h d List.mem_cons_self
    obtain ⟨ys, h1, h2⟩ := strL_of fun x hx => h x (List.mem_cons_of_mem _ hx)
    exact ⟨z :: ys, by simp [strL, h1], by simp [h2]⟩
@[simp] theorem eMethS_ (f : Str → List D → Res D) (a : ME) (fs : MA) (e : En) (g : Rng) : eMethS f a fs e g = (a e g).bind fun p => match p.1 with
  | .str z => (fs e p.2).bind fun q => pureG (f z q.1) q.2
  | _ => .stuck := rfl
@[simp] theorem eMethL_ (f : List D → List D → Res D) (a : ME) (fs : MA) (e : En) (g : Rng) : eMethL f a fs e g = (a e g).bind fun p => match p.1 with
  | .lst z => (fs e p.2).bind fun q => pureG (f z q.1) q.2
  | _ => .stuck := rfl
@[simp] theorem eCallK_ (n k : Nat) (f : List D → List D → Res D) (fs fk : MA) (e : En) (g : Rng) : eCallK n k f fs fk e g = (fs e g).bind fun p => (fk e p.2).bind fun q => if p.1.length = n ∧ q.1.length = k then pureG (f p.1 q.1) q.2 else .stuck := rfl
@[simp] theorem picks_nil {α : Type} (z : α) (us ws ds ms : List α) : picks z us ws ds ms [] = [] := rfl
@[simp] theorem picks_p {α : Type} (z : α) (us ws ds ms : List α) (i : Nat) (src : List Src) : picks z us ws ds ms (.p i :: src) = us.getD i z :: picks z us ws ds ms src := rfl
@[simp] theorem picks_k {α : Type} (z : α) (us ws ds ms : List α) (i : Nat) (src : List Src) : picks z us ws ds ms (.k i :: src) = ws.getD i z :: picks z us ws ds ms src := rfl
@[simp] theorem picks_d {α : Type} (z : α) (us ws ds ms : List α) (i : Nat) (src : List Src) : picks z us ws ds ms (.d i :: src) = ds.getD i z :: picks z us ws ds ms src := rfl
@[simp] theorem picks_m {α : Type} (z : α) (us ws ds ms : List α) (i : Nat) (src : List Src) : picks z us ws ds ms (.m i :: src) = ms.getD i z :: picks z us ws ds ms src := rfl
@[simp] theorem pNo_ (e : En) (g : Rng) : pNo e g = .ok (none, g) := rfl
def atP (p : D × Rng) : Res (Option Int × Rng) := match p.1 with
  | .int i => .ok (some i, p.2)
  | _ => .stuck
@[simp] theorem atP_ (i : Int) (g : Rng) : atP (.int i, g) = .ok (some i, g) := rfl
@[simp] theorem pAt_ (f : ME) (e : En) (g : Rng) : pAt f e g = (f e g).bind atP := rfl
@[simp] theorem eSl_ (a : ME) (l h : MP) (e : En) (g : Rng) : eSl a l h e g = (a e g).bind fun p => (l e p.2).bind fun q => (h e q.2).bind fun r => pureG (dSl p.1 q.1 r.1) r.2 := rfl
@[simp] theorem dSl_lst (l : List D) (lo hi : Option Int) : dSl (.lst l) lo hi = .ok (.lst (cutD l lo hi)) := rfl
@[simp] theorem dSl_tup (l : List D) (lo hi : Option Int) : dSl (.tup l) lo hi = .ok (.tup (cutD l lo hi)) := rfl
theorem dSl_str {z : Str} (lo hi : Option Int) (h : z.length ≤ 16777216) : dSl (.str z) lo hi = .ok (.str (cutS z lo hi)) := if_pos h
theorem dAdd_ss {i j : Str} (h : i.length + j.length ≤ 16777216) : dAdd (.str i) (.str j) = .ok (.str (i ++ j)) := if_pos h
theorem dAdd_ll {i j : List D} (h : i.length + j.length ≤ 1000) : dAdd (.lst i) (.lst j) = .ok (.lst (i ++ j)) := if_pos h
theorem dAdd_tt {i j : List D} (h : i.length + j.length ≤ 1000) : dAdd (.tup i) (.tup j) = .ok (.tup (i ++ j)) := if_pos h
theorem dMul_li {i : List D} {j : Int} (h : 0 ≤ j ∧ j ≤ 1000 ∧ i.length * j.toNat ≤ 1000) : dMul (.lst i) (.int j) = .ok (.lst (List.replicate j.toNat i).flatten) := if_pos h
@[simp] theorem dList_lst (l : List D) : dList [.lst l] = .ok (.lst l) := rfl
@[simp] theorem dList_tup (l : List D) : dList [.tup l] = .ok (.lst l) := rfl
@[simp] theorem dTupOf_lst (l : List D) : dTupOf [.lst l] = .ok (.tup l) := rfl
@[simp] theorem dTupOf_tup (l : List D) : dTupOf [.tup l] = .ok (.tup l) := rfl
@[simp] theorem length_rangeD (m : Int) (n : Nat) : (rangeD m n).length = n := by simp [rangeD]
end DL
namespace DL
open PySem L2
def asgGK (o : Option En) (g : Rng) : Res Out := match o with
  | some e => .ok (.nx e g)
  | none => .stuck
@[simp] theorem asgGK_some (e : En) (g : Rng) : asgGK (some e) g = .ok (.nx e g) := rfl
@[simp] theorem sAsgG_ (tf : TgF) (f : ME) (e : En) (g : Rng) : sAsgG tf f e g = (f e g).bind fun p => asgGK (tf p.1 e) p.2 := by
  unfold sAsgG
  congr 1
theorem lamE_nil : lamE [] = [] := rfl
@[simp] theorem lamE_sh (d : D) (e : En) : lamE (.sh d :: e) = .sh d :: lamE e := rfl
@[simp] theorem lamE_un (e : En) : lamE (.un :: e) = .un :: lamE e := rfl
@[simp] theorem lamE_rng (e : En) : lamE (.rng :: e) = .un :: lamE e := rfl
@[simp] theorem lamE_ow (d : List D) (e : En) : lamE (.ow d :: e) = .un :: lamE e := rfl
theorem outc_ok {fb : ME} {oc : Exc → Res D} {e : En} {g g1 : Rng} {d : D} (h : fb (lamE e) g0 = .ok (d, g1)) : eOutc fb oc e g = .ok (.tup [d, .str "", .non], g) := by
  unfold eOutc; rw [h]
theorem outc_err {fb : ME} {oc : Exc → Res D} {e : En} {g : Rng} {x : Exc} {d : D} (h : fb (lamE e) g0 = .err x) (h2 : oc x = .ok d) : eOutc fb oc e g = .ok (d, g) := by
  unfold eOutc; rw [h]; simp only [h2]
@[simp] theorem sRaise0_ (x : Str) (e : En) (g : Rng) : sRaise0 x e g = .err ⟨x, ["tag"], [.str x]⟩ := rfl
@[simp] theorem resD_err (x : Exc) : resD (.err x) = .err x := rfl
end DL

set_option Elab.async false
set_option linter.all false
set_option maxRecDepth 100000
set_option maxHeartbeats 4000000
namespace LW
open PySem PySem.Spec PyProof.Rows L2 DL
abbrev k_ZERO : D := (.tup [(.int 0), (.int 1)])
abbrev k_ONE : D := (.tup [(.int 1), (.int 1)])
@[reducible] def b_gcd : MS :=
  (sSeq (sWhile (fun e => fuGcd e) (eTest (eOp dNe (eVar 1) (eC (.int 0)))) (sPar 0 1 (aCons (eVar 1) (aCons (eOp dMod (eVar 0) (eVar 1)) aNil))))
    (sRet [] (eVar 0)))
def m_gcd : List D → Res D := runD 2 2 b_gcd
@[reducible] def b_fraction : MS :=
  (sSeq (sIf (eTest (eOp dEq (eVar 1) (eC (.int 0)))) sBad sNx)
    (sSeq (sAsg 2 (eCall m_gcd (aCons (eCall dAbs (aCons (eVar 0) aNil)) (aCons (eCall dAbs (aCons (eVar 1) aNil)) aNil))))
    (sSeq (sAsg 3 (eIf (eTest (eOp dGt (eVar 1) (eC (.int 0)))) (eC (.int 1)) (eUn dNeg (eC (.int 1)))))
    (sRet [] (eTup (aCons (eOp dFDiv (eOp dMul (eVar 3) (eVar 0)) (eVar 2)) (aCons (eOp dFDiv (eOp dMul (eVar 3) (eVar 1)) (eVar 2)) aNil)))))))
def m_fraction : List D → Res D := runD 4 2 b_fraction
@[reducible] def b_add : MS :=
  (sRet [] (eCallK 2 0 (fun us ws => m_fraction (picks .non us ws [(.int 1)] [] [.p 0, .p 1])) (aCons (eOp dAdd (eOp dMul (eOp dIx (eVar 0) (eC (.int 0))) (eOp dIx (eVar 1) (eC (.int 1)))) (eOp dMul (eOp dIx (eVar 1) (eC (.int 0))) (eOp dIx (eVar 0) (eC (.int 1))))) (aCons (eOp dMul (eOp dIx (eVar 0) (eC (.int 1))) (eOp dIx (eVar 1) (eC (.int 1)))) aNil)) aNil))
def m_add : List D → Res D := runD 2 2 b_add
@[reducible] def b_subtract : MS :=
  (sRet [] (eCallK 2 0 (fun us ws => m_fraction (picks .non us ws [(.int 1)] [] [.p 0, .p 1])) (aCons (eOp dSub (eOp dMul (eOp dIx (eVar 0) (eC (.int 0))) (eOp dIx (eVar 1) (eC (.int 1)))) (eOp dMul (eOp dIx (eVar 1) (eC (.int 0))) (eOp dIx (eVar 0) (eC (.int 1))))) (aCons (eOp dMul (eOp dIx (eVar 0) (eC (.int 1))) (eOp dIx (eVar 1) (eC (.int 1)))) aNil)) aNil))
def m_subtract : List D → Res D := runD 2 2 b_subtract
@[reducible] def b_multiply : MS :=
  (sRet [] (eCallK 2 0 (fun us ws => m_fraction (picks .non us ws [(.int 1)] [] [.p 0, .p 1])) (aCons (eOp dMul (eOp dIx (eVar 0) (eC (.int 0))) (eOp dIx (eVar 1) (eC (.int 0)))) (aCons (eOp dMul (eOp dIx (eVar 0) (eC (.int 1))) (eOp dIx (eVar 1) (eC (.int 1)))) aNil)) aNil))
def m_multiply : List D → Res D := runD 2 2 b_multiply
@[reducible] def b_divide : MS :=
  (sRet [] (eCallK 2 0 (fun us ws => m_fraction (picks .non us ws [(.int 1)] [] [.p 0, .p 1])) (aCons (eOp dMul (eOp dIx (eVar 0) (eC (.int 0))) (eOp dIx (eVar 1) (eC (.int 1)))) (aCons (eOp dMul (eOp dIx (eVar 0) (eC (.int 1))) (eOp dIx (eVar 1) (eC (.int 0)))) aNil)) aNil))
def m_divide : List D → Res D := runD 2 2 b_divide
@[reducible] def b_total : MS :=
  (sSeq (sAsg 2 (eVar 1))
    (sSeq (sFor (iSeqD (eVar 0)) (gNm 3) (sAsg 2 (eCall m_add (aCons (eVar 2) (aCons (eVar 3) aNil)))))
    (sRet [] (eVar 2))))
def m_total : List D → Res D := runD 4 2 b_total
@[reducible] def b_check_shape : MS :=
  (sSeq (sFor (iEnumD (aCons (eVar 0) aNil)) (gTp 2 (gsCons (gNm 2) (gsCons (gNm 3) gsNil))) (sIf (eTest (eOp dNe (eCall dLen (aCons (eVar 3) aNil)) (eCall dLen (aCons (eOp dIx (eVar 0) (eC (.int 0))) aNil)))) (sRaise1 "InvalidShape" "pos" (aCons (eVar 2) aNil)) sNx))
    (sIf (eTest (eOp dNe (eCall dLen (aCons (eVar 1) aNil)) (eCall dLen (aCons (eVar 0) aNil)))) (sRaise1 "InvalidShape" "pos" (aCons (eCall dLen (aCons (eVar 0) aNil)) aNil)) sNx))
def m_check_shape : List D → Res D := runD 4 2 b_check_shape
@[reducible] def b_subtract_multiple : MS :=
  (sRet [] (eOfL (aLc [3, 4] (iZipD (aCons (eVar 0) (aCons (eVar 1) aNil))) (gTp 2 (gsCons (gNm 3) (gsCons (gNm 4) gsNil))) mTrue (eIf (eTest (eOp dEq (eVar 4) (eC k_ZERO))) (eVar 3) (eCall m_subtract (aCons (eVar 3) (aCons (eCall m_multiply (aCons (eVar 2) (aCons (eVar 4) aNil))) aNil)))))))
def m_subtract_multiple : List D → Res D := runD 5 3 b_subtract_multiple
@[reducible] def b_scaled : MS :=
  (sRet [] (eOfL (aLc [2] (iSeqD (eVar 0)) (gNm 2) mTrue (eIf (eTest (eOp dEq (eVar 2) (eC k_ZERO))) (eVar 2) (eCall m_divide (aCons (eVar 2) (aCons (eVar 1) aNil)))))))
def m_scaled : List D → Res D := runD 3 2 b_scaled
@[reducible] def b_pivot : MS :=
  (sSeq (sNoRt (sAsg 3 (eCall m_scaled (aCons (eOp dIx (eVar 0) (eVar 1)) (aCons (eOp dIx (eOp dIx (eVar 0) (eVar 1)) (eVar 2)) aNil)))))
    (sSeq (sNoRt (sAsgF 4 (aLst aNil)))
    (sSeq (sNoRt (sFor (iEnumD (aCons (eVar 0) aNil)) (gTp 2 (gsCons (gNm 5) (gsCons (gNm 6) gsNil))) (sIf (eTest (eOp dEq (eVar 5) (eVar 1))) (sApp 4 (eVar 3)) (sApp 4 (eIf (eTest (eOp dEq (eOp dIx (eVar 6) (eVar 2)) (eC k_ZERO))) (eVar 6) (eCall m_subtract_multiple (aCons (eVar 6) (aCons (eVar 3) (aCons (eOp dIx (eVar 6) (eVar 2)) aNil)))))))))
    (sRetO 4))))
def m_pivot : List D → Res D := runF 7 3 b_pivot
theorem ol_pivot : ∀ ds d, m_pivot ds = .ok d → ∃ l, d = .lst l := fun ds d h => runF_l h
@[reducible] def b_unit_row : MS :=
  (sRet [] (eOfL (aLc [2] (iRange (aCons (eVar 0) aNil)) (gNm 2) mTrue (eIf (eTest (eOp dEq (eVar 2) (eVar 1))) (eC k_ONE) (eC k_ZERO)))))
def m_unit_row : List D → Res D := runD 3 2 b_unit_row
@[reducible] def b_solve_linear : MS :=
  (sSeq (sDrop (eCall m_check_shape (aCons (eVar 0) (aCons (eVar 1) aNil))))
    (sSeq sBad
    (sSeq sBad
    (sSeq sBad
    (sSeq sBad
    (sSeq sBad
    (sSeq sBad
    (sSeq sBad
    (sSeq sBad
    sBad)))))))))
def m_solve_linear : List D → Res D := runD 15 2 b_solve_linear
@[reducible] def b_check_solution : MS :=
  (sSeq (sDrop (eCall m_check_shape (aCons (eVar 0) (aCons (eVar 1) aNil))))
    (sSeq sBad
    (sSeq sBad
    (sSeq sBad
    (sSeq sBad
    (sSeq sBad
    (sSeq sBad
    sBad)))))))
def m_check_solution : List D → Res D := runD 14 3 b_check_solution
@[reducible] def b__law_draw : MS :=
  (sSeq (sIf (tAndM (eTest (eOp dEq (rgI 0 2) (eC (.int 0)))) (eTest (eOp dLtI (rgI 0 1) (rgLen 0)))) (sSeq (sAsg 3 (rgCell 0))
    (sSeq (rgSet 0 1 (eOp dAdd (rgI 0 1) (eC (.int 1))))
    (sIf (eTest (eOp dGe (eVar 3) (eOp dPow (eC (.int 10)) (eC (.int 18))))) (rgSet 0 2 (eVar 3)) (rgSet 0 3 (eOp dMod (eOp dAdd (eOp dAdd (eOp dMul (rgI 0 3) (eC (.int 40692))) (eOp dMul (eOp dMod (eVar 3) (eC (.int 2147483563))) (eC (.int 71)))) (rgI 0 1)) (eC (.int 2147483563))))))) sNx)
    (sSeq (sIf (eTest (eOp dGt (rgI 0 2) (eC (.int 0)))) (sSeq (sAsg 4 (eOp dMod (rgI 0 2) (eVar 1)))
    (sSeq (rgSet 0 2 (eOp dFDiv (rgI 0 2) (eVar 1)))
    (sRet [] (eVar 4)))) sNx)
    (sSeq (sAsg 2 (rgI 0 3))
    (sSeq (rgSet 0 3 (eOp dMod (eOp dAdd (eOp dAdd (eOp dMul (eVar 2) (eVar 2)) (eOp dMul (eVar 2) (eC (.int 39373)))) (eC (.int 80021))) (eC (.int 2147483563))))
    (sRet [] (eOp dMod (eOp dAdd (eOp dFDiv (rgI 0 3) (eC (.int 61))) (eOp dMul (eOp dMod (rgI 0 3) (eC (.int 8123))) (eC (.int 223)))) (eVar 1)))))))
def m__law_draw : List D → Rng → Res (D × Rng) := runG 5 2 b__law_draw
@[reducible] def b__law_choice : MS :=
  (sRet [] (eOp dIx (eVar 1) (eCallG 0 m__law_draw (aCons (eCall dLen (aCons (eVar 1) aNil)) aNil))))
def m__law_choice : List D → Rng → Res (D × Rng) := runG 2 2 b__law_choice
@[reducible] def b__law_equal (r__law_equal : List D → Res D) : MS :=
  (sSeq (sIf (eTest (eOp dIsN (eVar 1) (eC (.non)))) (sRet [] (eOp dIsN (eVar 0) (eC (.non)))) sNx)
    (sSeq (sIf (tOrM (eTest (eIsi .tList (eVar 1))) (eTest (eIsi .tTup (eVar 1)))) (sSeq (sIf (tOrM (eTest (eOp dNe (eIsi .tList (eVar 0)) (eIsi .tList (eVar 1)))) (eTest (eOp dNe (eIsi .tTup (eVar 0)) (eIsi .tTup (eVar 1))))) (sRet [] (eC (.bl false))) sNx)
    (sRet [] (eAnd (eOp dEq (eCall dLen (aCons (eVar 0) aNil)) (eCall dLen (aCons (eVar 1) aNil))) (eCall dAll (aCons (eOfL (aLc [2, 3] (iZipD (aCons (eVar 0) (aCons (eVar 1) aNil))) (gTp 2 (gsCons (gNm 2) (gsCons (gNm 3) gsNil))) mTrue (eCall r__law_equal (aCons (eVar 2) (aCons (eVar 3) aNil))))) aNil))))) sNx)
    (sSeq (sIf (tOrM (eTest (eOp dNe (eIsi .tBool (eVar 1)) (eIsi .tBool (eVar 0)))) (eTest (eOp dNe (eIsi .tInt (eVar 1)) (eIsi .tInt (eVar 0))))) (sRet [] (eC (.bl false))) sNx)
    (sRet [] (eAnd (eOp dEq (eIsi .tStr (eVar 0)) (eIsi .tStr (eVar 1))) (eOp dEq (eVar 0) (eVar 1)))))))
def m__law_equal : Nat → List D → Res D
  | 0 => fun _ => .stuck
  | n + 1 => runD 4 2 (b__law_equal (m__law_equal n))
@[reducible] def b__law_error_field : MS :=
  (sSeq (sIf (eTest (eOp dInS (eXf 0 "tag") (eTup (aCons (eC (.str "InvalidTerm")) (aCons (eC (.str "InvalidName")) (aCons (eC (.str "TermTooLarge")) (aCons (eC (.str "DuplicateName")) (aCons (eC (.str "SystemInUse")) (aCons (eC (.str "UnknownEvent")) (aCons (eC (.str "UnknownSystem")) (aCons (eC (.str "UnknownRun")) aNil))))))))))) (sRet [] (eXf 0 "name")) sNx)
    (sSeq (sIf (eTest (eOp dInS (eXf 0 "tag") (eTup (aCons (eC (.str "InvalidRound")) (aCons (eC (.str "InvalidLimit")) aNil))))) (sRet [] (eXf 0 "number")) sNx)
    (sSeq (sIf (eTest (eOp dInS (eXf 0 "tag") (eTup (aCons (eC (.str "InvalidShape")) (aCons (eC (.str "ParseError")) aNil))))) (sRet [] (eXf 0 "pos")) sNx)
    (sSeq (sIf (eTest (eOp dInS (eXf 0 "tag") (eTup (aCons (eC (.str "CapacityExceeded")) (aCons (eC (.str "InvalidCount")) aNil))))) (sRet [] (eIf (eTest (eOp dEq (eXf 0 "tag") (eC (.str "InvalidCount")))) (eXf 0 "quantity") (eXf 0 "capacity"))) sNx)
    (sRet [] (eIf (eTest (eOp dEq (eXf 0 "tag") (eC (.str "InvalidCommand")))) (eXf 0 "first") (eC (.non))))))))
def m__law_error_field : Exc → Res D := runE 1 b__law_error_field
@[reducible] def b__law_reduce : MS :=
  (sSeq (sPar 2 3 (aCons (eCall dAbs (aCons (eVar 0) aNil)) (aCons (eCall dAbs (aCons (eVar 1) aNil)) aNil)))
    (sSeq (sWhile (fun e => fuGcd2 e) (eTest (eOp dNe (eVar 3) (eC (.int 0)))) (sPar 2 3 (aCons (eVar 3) (aCons (eOp dMod (eVar 2) (eVar 3)) aNil))))
    (sSeq (sAsg 4 (eIf (eTest (eOp dGt (eVar 1) (eC (.int 0)))) (eC (.int 1)) (eUn dNeg (eC (.int 1)))))
    (sRet [] (eTup (aCons (eOp dFDiv (eOp dMul (eVar 4) (eVar 0)) (eVar 2)) (aCons (eOp dFDiv (eOp dMul (eVar 4) (eVar 1)) (eVar 2)) aNil)))))))
def m__law_reduce : List D → Res D := runD 5 2 b__law_reduce
@[reducible] def b__law_add : MS :=
  (sRet [] (eCall m__law_reduce (aCons (eOp dAdd (eOp dMul (eOp dIx (eVar 0) (eC (.int 0))) (eOp dIx (eVar 1) (eC (.int 1)))) (eOp dMul (eOp dIx (eVar 1) (eC (.int 0))) (eOp dIx (eVar 0) (eC (.int 1))))) (aCons (eOp dMul (eOp dIx (eVar 0) (eC (.int 1))) (eOp dIx (eVar 1) (eC (.int 1)))) aNil))))
def m__law_add : List D → Res D := runD 2 2 b__law_add
@[reducible] def b__law_multiply : MS :=
  (sRet [] (eCall m__law_reduce (aCons (eOp dMul (eOp dIx (eVar 0) (eC (.int 0))) (eOp dIx (eVar 1) (eC (.int 0)))) (aCons (eOp dMul (eOp dIx (eVar 0) (eC (.int 1))) (eOp dIx (eVar 1) (eC (.int 1)))) aNil))))
def m__law_multiply : List D → Res D := runD 2 2 b__law_multiply
@[reducible] def b__law_sum : MS :=
  (sSeq (sAsg 1 (eTup (aCons (eC (.int 0)) (aCons (eC (.int 1)) aNil))))
    (sSeq (sFor (iSeqD (eVar 0)) (gNm 2) (sAsg 1 (eCall m__law_add (aCons (eVar 1) (aCons (eVar 2) aNil)))))
    (sRet [] (eVar 1))))
def m__law_sum : List D → Res D := runD 3 1 b__law_sum
@[reducible] def b__law_small : MS :=
  (sRet [] (eCall m__law_reduce (aCons (eOp dSub (eCallG 0 m__law_draw (aCons (eC (.int 25)) aNil)) (eC (.int 8))) (aCons (eCallG 0 m__law_choice (aCons (eOfL (aLst (aCons (eC (.int 1)) (aCons (eC (.int 1)) (aCons (eC (.int 1)) (aCons (eC (.int 2)) (aCons (eC (.int 3)) (aCons (eC (.int 4)) aNil)))))))) aNil)) aNil))))
def m__law_small : List D → Rng → Res (D × Rng) := runG 1 1 b__law_small
@[reducible] def b__law_linear_case : MS :=
  (sSeq (sAsgG (gTp 2 (gsCons (gNm 1) (gsCons (gNm 2) gsNil))) (eTup (aCons (eOp dAdd (eC (.int 1)) (eCallG 0 m__law_draw (aCons (eC (.int 5)) aNil))) (aCons (eOp dAdd (eC (.int 1)) (eCallG 0 m__law_draw (aCons (eC (.int 5)) aNil))) aNil))))
    (sSeq (sAsgF 3 (aLc [7] (iRange (aCons (eVar 1) aNil)) (gNm 7) mTrue (eOfL (aLc [8] (iRange (aCons (eVar 2) aNil)) (gNm 8) mTrue (eCallG 0 m__law_choice (aCons (eOfL (aLst (aCons (eTup (aCons (eC (.int 0)) (aCons (eC (.int 1)) aNil))) (aCons (eCallG 0 m__law_small aNil) aNil)))) aNil))))))
    (sSeq (sIf (tAndM (eTest (eOp dGt (eVar 1) (eC (.int 1)))) (eTest (eOp dEq (eCallG 0 m__law_draw (aCons (eC (.int 2)) aNil)) (eC (.int 0))))) (sSeq (sAsg 6 (eCallG 0 m__law_small aNil))
    (sSetI 3 (eOfL (borF [3] (aLc [10, 11] (iZipD (aCons (eOp dIx (eVar 3) (eC (.int 0))) (aCons (eOp dIx (eVar 3) (eOp dSub (eVar 1) (eC (.int 1)))) aNil))) (gTp 2 (gsCons (gNm 10) (gsCons (gNm 11) gsNil))) mTrue (eCall m__law_add (aCons (eVar 10) (aCons (eCall m__law_multiply (aCons (eVar 6) (aCons (eVar 11) aNil))) aNil)))))) (eCallG 0 m__law_draw (aCons (eVar 1) aNil)))) sNx)
    (sSeq (sAsg 4 (eOfL (aLc [8] (iRange (aCons (eVar 2) aNil)) (gNm 8) mTrue (eCallG 0 m__law_small aNil))))
    (sSeq (sFrz [3] (sAsgF 5 (aLc [9] (iSeqD (eVar 3)) (gNm 9) mTrue (eCall m__law_sum (aCons (eOfL (aLc [10, 11] (iZipD (aCons (eVar 9) (aCons (eVar 4) aNil))) (gTp 2 (gsCons (gNm 10) (gsCons (gNm 11) gsNil))) mTrue (eCall m__law_multiply (aCons (eVar 10) (aCons (eVar 11) aNil))))) aNil)))))
    (sSeq (sIf (eTest (eOp dEq (eCallG 0 m__law_draw (aCons (eC (.int 2)) aNil)) (eC (.int 0)))) (sSetI 5 (eCallG 0 m__law_small aNil) (eCallG 0 m__law_draw (aCons (eVar 1) aNil))) sNx)
    (sRet [5] (eTup (aCons (eVar 3) (aCons (eVar 5) aNil))))))))))
def m__law_linear_case : List D → Rng → Res (D × Rng) := runG 12 1 b__law_linear_case
@[reducible] def b_law : MS :=
  (sSeq (sFor (iRange (aCons (eC (.int 6)) aNil)) (gNm 2) (sSeq (sAsgG (gTp 2 (gsCons (gNm 3) (gsCons (gNm 4) gsNil))) (eCallG 1 m__law_linear_case aNil))
    (sSeq (sPar3 5 6 7 (aCons (eCallG 1 m__law_draw (aCons (eCall dLen (aCons (eVar 3) aNil)) aNil)) (aCons (eCallG 1 m__law_draw (aCons (eC (.int 3)) aNil)) (aCons (eTup (aCons (eC (.str "")) (aCons (eC (.non)) aNil))) aNil))))
    (sSeq (sIf (eTest (eOp dGt (eVar 6) (eC (.int 0)))) (sAsgG (gTp 2 (gsCons (gNm 4) (gsCons (gNm 7) gsNil))) (eTup (aCons (eCallG 1 m__law_choice (aCons (eOfL (aLst (aCons (eSl (eVar 4) (pAt (eC (.int 1))) pNo) (aCons (eOp dAdd (eVar 4) (eOfL (aLst (aCons (eTup (aCons (eC (.int 1)) (aCons (eC (.int 1)) aNil))) aNil)))) aNil)))) aNil)) (aCons (eTup (aCons (eC (.str "InvalidShape")) (aCons (eCall dLen (aCons (eVar 3) aNil)) aNil))) aNil)))) sNx)
    (sSeq (sIf (tAndM (eTest (eOp dLtI (eVar 6) (eC (.int 2)))) (eTest (eOp dGt (eVar 5) (eC (.int 0))))) (sAsgG (gTp 2 (gsCons (gNm 3) (gsCons (gNm 7) gsNil))) (eTup (aCons (eOp dAdd (eOp dAdd (eSl (eVar 3) pNo (pAt (eVar 5))) (eOfL (aLst (aCons (eCallG 1 m__law_choice (aCons (eOfL (aLst (aCons (eSl (eOp dIx (eVar 3) (eVar 5)) (pAt (eC (.int 1))) pNo) (aCons (eOp dAdd (eOp dIx (eVar 3) (eVar 5)) (eOfL (aLst (aCons (eTup (aCons (eC (.int 0)) (aCons (eC (.int 1)) aNil))) aNil)))) aNil)))) aNil)) aNil)))) (eSl (eVar 3) (pAt (eOp dAdd (eVar 5) (eC (.int 1)))) pNo)) (aCons (eTup (aCons (eC (.str "InvalidShape")) (aCons (eVar 5) aNil))) aNil)))) sNx)
    (sSeq (sIf (eTest (eOp dEq (eOp dIx (eVar 7) (eC (.int 0))) (eC (.str "")))) sCt sNx)
    (sSeq (sAsg 8 (eOfL (aLst (aCons (eErr (eCall m_solve_linear (aCons (eVar 3) (aCons (eVar 4) aNil))) (ocD sel1 sel2 m__law_error_field)) (aCons (eErr (eCall m_check_solution (aCons (eVar 3) (aCons (eVar 4) (aCons (eTup (aCons (eC (.str "solution")) (aCons (eOfL (aLst aNil)) aNil))) aNil)))) (ocD sel1 sel2 m__law_error_field)) aNil)))))
    (sIf (tNotM (eTest (eCall (m__law_equal 12) (aCons (eVar 8) (aCons (eOfL (aLst (aCons (eVar 7) (aCons (eVar 7) aNil)))) aNil))))) (sRet [] (eC (.bl false))) sNx))))))))
    (sRet [] (eC (.bl true))))
def drawTail : MS :=
  sSeq (sIf (eTest (eOp dGt (rgI 0 2) (eC (.int 0)))) (sSeq (sAsg 4 (eOp dMod (rgI 0 2) (eVar 1))) (sSeq (rgSet 0 2 (eOp dFDiv (rgI 0 2) (eVar 1))) (sRet [] (eVar 4)))) sNx)
    (sSeq (sAsg 2 (rgI 0 3)) (sSeq (rgSet 0 3 (eOp dMod (eOp dAdd (eOp dAdd (eOp dMul (eVar 2) (eVar 2)) (eOp dMul (eVar 2) (eC (.int 39373)))) (eC (.int 80021))) (eC (.int 2147483563))))
    (sRet [] (eOp dMod (eOp dAdd (eOp dFDiv (rgI 0 3) (eC (.int 61))) (eOp dMul (eOp dMod (rgI 0 3) (eC (.int 8123))) (eC (.int 223)))) (eVar 1)))))
def drawHead : MS := sIf (tAndM (eTest (eOp dEq (rgI 0 2) (eC (.int 0)))) (eTest (eOp dLtI (rgI 0 1) (rgLen 0)))) (sSeq (sAsg 3 (rgCell 0))
    (sSeq (rgSet 0 1 (eOp dAdd (rgI 0 1) (eC (.int 1))))
    (sIf (eTest (eOp dGe (eVar 3) (eOp dPow (eC (.int 10)) (eC (.int 18))))) (rgSet 0 2 (eVar 3)) (rgSet 0 3 (eOp dMod (eOp dAdd (eOp dAdd (eOp dMul (rgI 0 3) (eC (.int 40692))) (eOp dMul (eOp dMod (eVar 3) (eC (.int 2147483563))) (eC (.int 71)))) (rgI 0 1)) (eC (.int 2147483563))))))) sNx
theorem draw_parts : b__law_draw = sSeq drawHead drawTail := rfl
theorem draw_ok {q : Int} {g : Rng} (hg : g.Ok) (h0 : 0 < q) (h1 : q < 18446744073709551616) : WG (m__law_draw [.int q] g) (fun d g' => g'.Ok ∧ intI (fun z => 0 ≤ z ∧ z < q) d) := by
  -- behind the first statement the drawing is in order again
  have fin : ∀ (s3 s4 : Slot) (g : Rng), g.Ok → WV (drawTail [.rng, .sh (.int q), .un, s3, s4] g)
      (rtI fun d g' => g'.Ok ∧ intI (fun z => 0 ≤ z ∧ z < q) d) := by
    rintro s3 s4 g ⟨i0, b0, s0, s1, cl⟩
    unfold drawTail
    by_cases hb : 0 < g.b
    · simp [rgI, rgSet, hb, dMod_pos h0, dFDiv_64 h0 h1, Int.ediv_nonneg b0 (Int.le_of_lt h0)]
      exact ⟨⟨i0, Int.ediv_nonneg b0 (Int.le_of_lt h0), s0, s1, cl⟩, Int.emod_nonneg _ (by omega), Int.emod_lt_of_pos _ h0⟩
    · have m1 := sq_bound s0 s1
      have n1 := Int.emod_nonneg (g.s * g.s + g.s * 39373 + 80021) (show (2147483563 : Int) ≠ 0 by decide)
      have n2 := Int.emod_lt_of_pos (g.s * g.s + g.s * 39373 + 80021) (show (0 : Int) < 2147483563 by decide)
      have e1 : dMul (.int g.s) (.int g.s) = .ok (.int (g.s * g.s)) := dMul_64 (by omega) (by omega) (by omega) (by omega)
      have e2 : dMul (.int g.s) (.int 39373) = .ok (.int (g.s * 39373)) := dMul_64 (by omega) (by omega) (by omega) (by omega)
      have e3 : dMul (.int ((g.s * g.s + g.s * 39373 + 80021) % 2147483563 % 8123)) (.int 223) = .ok (.int ((g.s * g.s + g.s * 39373 + 80021) % 2147483563 % 8123 * 223)) := dMul_64 (by omega) (by omega) (by omega) (by omega)
      simp [rgI, rgSet, hb, e1, e2, dMod_pos, n1, n2, h0, dFDiv_64, e3]
      exact ⟨⟨i0, b0, n1, n2, cl⟩, Int.emod_nonneg _ (by omega), Int.emod_lt_of_pos _ h0⟩
  obtain ⟨i0, b0, s0, s1, cl⟩ := id hg
  refine WG_runG (by rfl) ?_
  show WV (b__law_draw [.rng, .sh (.int q), .un, .un, .un] g) _
  rw [draw_parts, sSeq_]
  unfold drawHead
  by_cases c1 : g.b = 0 ∧ g.i < g.cells.length
  · obtain ⟨z, hz⟩ := atI_some i0 c1.2
    by_cases c2 : 1000000000000000000 ≤ z
    · simp [rgI, rgLen, rgCell, rgSet, c1, hz, c2, show 0 ≤ g.i + 1 by omega, show 0 ≤ z by omega]
      exact fin _ _ _ ⟨by show 0 ≤ g.i + 1; omega, by show 0 ≤ z; omega, s0, s1, cl⟩
    · have n0 := Int.emod_nonneg z (show (2147483563 : Int) ≠ 0 by decide)
      have n1 := Int.emod_lt_of_pos z (show (0 : Int) < 2147483563 by decide)
      have e1 : dMul (.int g.s) (.int 40692) = .ok (.int (g.s * 40692)) := dMul_64 (by omega) (by omega) (by omega) (by omega)
      have e2 : dMul (.int (z % 2147483563)) (.int 71) = .ok (.int (z % 2147483563 * 71)) := dMul_64 (by omega) (by omega) (by omega) (by omega)
      have k1 := Int.emod_nonneg (g.s * 40692 + z % 2147483563 * 71 + (g.i + 1)) (show (2147483563 : Int) ≠ 0 by decide)
      have k2 := Int.emod_lt_of_pos (g.s * 40692 + z % 2147483563 * 71 + (g.i + 1)) (show (0 : Int) < 2147483563 by decide)
      simp [rgI, rgLen, rgCell, rgSet, c1, hz, c2, show 0 ≤ g.i + 1 by omega, dMod_pos, e1, e2, k1, k2]
      exact fin _ _ _ ⟨by show 0 ≤ g.i + 1; omega, Int.le_refl _, k1, k2, cl⟩
  · have : ((g.b = 0) = True → ¬ g.i < g.cells.length) := fun h z => c1 ⟨of_eq_true h, z⟩
    by_cases c3 : g.b = 0
    · have c4 : ¬ g.i < g.cells.length := fun z => c1 ⟨c3, z⟩
      simp [rgI, rgLen, c3, c4]
      exact fin _ _ _ hg
    · simp [rgI, rgLen, c3]
      exact fin _ _ _ hg
theorem draw_then {q : Int} {g : Rng} {Q : D → Rng → Prop} (hg : g.Ok) (h0 : 0 < q) (h1 : q < 18446744073709551616) (k : ∀ (z : Int) g', g'.Ok → 0 ≤ z → z < q → Q (.int z) g') : WG (m__law_draw [.int q] g) Q :=
  (draw_ok hg h0 h1).mono fun d g' ⟨h2, h3⟩ => by
    obtain ⟨z, rfl, z0, z1⟩ := intI_get h3
    exact k z g' h2 z0 z1

theorem choice_ok {l : List D} {g : Rng} (hg : g.Ok) (h0 : l ≠ []) (h1 : l.length ≤ 1000) : WG (m__law_choice [.lst l] g) (fun d g' => g'.Ok ∧ d ∈ l) := by
  have hl : 0 < l.length := List.length_pos_iff.mpr h0
  refine WG_runG (by rfl) ?_
  show WV (b__law_choice [.rng, .sh (.lst l)] g) _
  unfold b__law_choice
  try simp
  refine draw_then hg (by omega) (by omega) fun z g' h2 z0 z1 => ?_
  obtain ⟨x, hx⟩ := atI_some (l := l) z0 z1
  simp [hx, h2]
  unfold atI at hx
  cases hn : ixN l.length z with
  | none => rw [hn] at hx; cases hx
  | some j =>
    rw [hn] at hx
    exact List.mem_of_getElem? hx
theorem choice_then {l : List D} {g : Rng} {Q : D → Rng → Prop} (hg : g.Ok) (h0 : l ≠ []) (h1 : l.length ≤ 1000) (k : ∀ d g', g'.Ok → d ∈ l → Q d g') : WG (m__law_choice [.lst l] g) Q :=
  (choice_ok hg h0 h1).mono fun d g' ⟨h2, h3⟩ => k d g' h2 h3

/-! the greatest common divisor by its loop -/
def gcdI (a b : Int) : Int := (Int.gcd a b : Nat)
theorem emod_gcd (a b : Int) : Int.gcd b (a % b) = Int.gcd a b := by
  have h := Int.gcd_add_mul_left_right b (a % b) (a / b)
  rw [Int.emod_add_mul_ediv] at h
  rw [← h, Int.gcd_comm]
theorem reduce_loop (s0 s1 s4 : Slot) (g : Rng) : ∀ (n : Nat) (a b : Int), 0 ≤ a → 0 ≤ b → b.natAbs < n →
    whileL (eTest (eOp dNe (eVar 3) (eC (.int 0)))) (sPar 2 3 (aCons (eVar 3) (aCons (eOp dMod (eVar 2) (eVar 3)) aNil))) n [s0, s1, .sh (.int a), .sh (.int b), s4] g = .ok (.nx [s0, s1, .sh (.int (gcdI a b)), .sh (.int 0), s4] g)
  | 0, a, b, _, _, h => by omega
  | n + 1, a, b, ha, hb, h => by
    rw [whileL]
    by_cases h0 : b = 0
    · subst h0
      simp [gcdI]
      omega
    · have hp : 0 < b := by omega
      simp [h0, dMod_pos hp]
      rw [reduce_loop s0 s1 s4 g n b (a % b) hb (Int.emod_nonneg _ h0) (by have := Int.emod_lt_of_pos a hp; have := Int.emod_nonneg a h0; omega)]
      simp [gcdI, emod_gcd]
def absI (n : Int) : Int := if n < 0 then -n else n
def sgnI (d : Int) : Int := if 0 < d then 1 else -1
theorem gcd_abs (n d : Int) : gcdI (absI n) (absI d) = gcdI n d := by
  unfold gcdI absI
  congr 1
  split <;> split <;> simp
theorem gcdI_pos {n d : Int} (h : d ≠ 0) : 0 < gcdI n d := by
  unfold gcdI
  have : 0 < Int.gcd n d := Int.gcd_pos_of_ne_zero_right _ h
  omega
theorem gcdI_le {n d : Int} (h : d ≠ 0) : gcdI n d ≤ absI d := by
  unfold gcdI absI
  have h1 : Int.gcd n d ≤ d.natAbs := Nat.le_of_dvd (by omega) (Int.gcd_dvd_natAbs_right n d)
  split <;> omega
def redN (n d : Int) : Int := sgnI d * n / gcdI n d
def redD (n d : Int) : Int := sgnI d * d / gcdI n d
theorem sgn_mul_abs (d : Int) : sgnI d * d = absI d := by
  unfold sgnI absI
  by_cases h : 0 < d
  · rw [if_pos h, if_neg (by omega)]; omega
  · rw [if_neg h]; split <;> omega
/-- the numerator and the denominator are multiples of it -/
theorem red_mul {n d : Int} : redN n d * gcdI n d = sgnI d * n ∧ redD n d * gcdI n d = absI d := by
  have h1 : gcdI n d ∣ n := Int.gcd_dvd_left n d
  have h2 : gcdI n d ∣ d := Int.gcd_dvd_right n d
  constructor
  · exact Int.ediv_mul_cancel (Int.dvd_trans h1 (Int.dvd_mul_left _ _))
  · rw [← sgn_mul_abs]
    exact Int.ediv_mul_cancel (Int.dvd_trans h2 (Int.dvd_mul_left _ _))
theorem le_mul_one {a b : Int} (ha : 0 ≤ a) (hb : 1 ≤ b) : a ≤ a * b := by
  have h := Int.mul_le_mul_of_nonneg_left hb ha
  rwa [Int.mul_one] at h
theorem pos_of_mul_pos {a b : Int} (h : 0 < a * b) (hb : 0 < b) : 0 < a := by
  by_cases ha : 0 < a
  · exact ha
  · have h1 := Int.mul_le_mul_of_nonneg_right (show a ≤ 0 by omega) (Int.le_of_lt hb)
    rw [Int.zero_mul] at h1
    omega
theorem redD_pos {n d : Int} (h : d ≠ 0) : 0 < redD n d := by
  have h1 := (red_mul (n := n) (d := d)).2
  have h2 := gcdI_pos (n := n) h
  have h3 : 0 < absI d := by unfold absI; split <;> omega
  rw [← h1] at h3
  exact pos_of_mul_pos h3 h2
theorem redD_le {n d : Int} (h : d ≠ 0) : redD n d ≤ absI d := by
  have h1 := (red_mul (n := n) (d := d)).2
  have h2 := gcdI_pos (n := n) h
  have h3 := redD_pos (n := n) h
  rw [← h1]
  exact le_mul_one (Int.le_of_lt h3) (by omega)
theorem redN_le {n d : Int} (h : d ≠ 0) : absI (redN n d) ≤ absI n := by
  have h1 := (red_mul (n := n) (d := d)).1
  have h2 := gcdI_pos (n := n) h
  have h3 : absI (redN n d) * gcdI n d = absI n := by
    have hs : absI (sgnI d * n) = absI n := by
      unfold sgnI absI; split <;> split <;> split <;> omega
    rw [← hs, ← h1]
    unfold absI
    by_cases hn : redN n d < 0
    · rw [if_pos hn, if_pos (Int.mul_neg_of_neg_of_pos hn h2), Int.neg_mul]
    · rw [if_neg hn, if_neg (Int.not_lt.mpr (Int.mul_nonneg (by omega) (Int.le_of_lt h2)))]
  have h4 : 0 ≤ absI (redN n d) := by unfold absI; split <;> omega
  rw [← h3]
  exact le_mul_one h4 (by omega)
theorem reduce_ok {n d : Int} (h : d ≠ 0) (n1 : absI n < 9223372036854775808) (d1 : absI d < 9223372036854775808) : m__law_reduce [.int n, .int d] = .ok (.tup [.int (redN n d), .int (redD n d)]) := by
  have a0 : 0 ≤ absI n := by unfold absI; split <;> omega
  have b0 : 0 ≤ absI d := by unfold absI; split <;> omega
  have hl := reduce_loop (.sh (.int n)) (.sh (.int d)) .un g0 ((absI d).natAbs + 1) (absI n) (absI d) a0 b0 (by omega)
  rw [gcd_abs] at hl
  have gp := gcdI_pos (n := n) h
  have gl := gcdI_le (n := n) h
  have hs : ∀ x : Int, absI x < 9223372036854775808 → dMul (.int (sgnI d)) (.int x) = .ok (.int (sgnI d * x)) := fun x hx => by
    have : -9223372036854775808 < x ∧ x < 9223372036854775808 := by unfold absI at hx; split at hx <;> omega
    exact dMul_64 (by unfold sgnI; split <;> decide) (by unfold sgnI; split <;> decide) (by omega) (by omega)
  have sg : ∀ g, (eIf (eTest (eOp dGt (eVar 1) (eC (.int 0)))) (eC (.int 1)) (eUn dNeg (eC (.int 1)))) [.sh (.int n), .sh (.int d), .sh (.int (gcdI n d)), .sh (.int 0), .un] g = .ok (.int (sgnI d), g) := fun g => by
    simp [sgnI]
    split <;> rfl
  rw [m__law_reduce, runD, if_pos (by rfl)]
  show resD (b__law_reduce [.sh (.int n), .sh (.int d), .un, .un, .un] g0) = _
  unfold b__law_reduce
  rw [sSeq_]
  simp only [sPar_, aCons_, aNil_, eCall_, eVar_, bind_ok, pureG_ok', List.getElem?_cons_zero, List.getElem?_cons_succ, dAbs_, parK_, List.set_cons_zero, List.set_cons_succ, seqK_nx]
  rw [sSeq_, sWhile]
  show resD ((whileL _ _ ((absI d).natAbs + 1) [.sh (.int n), .sh (.int d), .sh (.int (absI n)), .sh (.int (absI d)), .un] g0).bind _) = _
  rw [hl]
  simp only [bind_ok, seqK_nx]
  rw [sSeq_, sAsg_, sg]
  simp [hs n n1, hs d d1, dFDiv_64 gp (by omega), redN, redD]

theorem lcL_mapT {α : Type} {tf : TgF} {fe : ME} {e : En} {g : Rng} {φ ψ : α → D} : ∀ {ts : List α}, (∀ t, t ∈ ts → ∃ e1, tf (φ t) e = some e1 ∧ fe e1 g = .ok (ψ t, g)) → lcL tf mTrue fe (ts.map φ) e g = .ok (ts.map ψ, g)
  | [], _ => by rw [List.map_nil, lcL]; rfl
  | t :: ts, h => by
    obtain ⟨e1, h1, h2⟩ := h t List.mem_cons_self
    have ih := lcL_mapT (φ := φ) (ψ := ψ) fun x hx => h x (List.mem_cons_of_mem _ hx)
    rw [List.map_cons, lcL]
    simp only [h1, mTrue_, bind_ok, if_true, h2]
    rw [ih]
    rfl

/-- a fraction in lowest terms, its parts within a bound -/
def Frac (B : Int) (n d : Int) : Prop := 0 < d ∧ d ≤ B ∧ absI n ≤ B ∧ Int.gcd n d = 1
theorem red_gcd {n d : Int} (h : d ≠ 0) : Int.gcd (redN n d) (redD n d) = 1 := by
  obtain ⟨h1, h2⟩ := red_mul (n := n) (d := d)
  have h3 := gcdI_pos (n := n) h
  have e : Int.gcd (redN n d * gcdI n d) (redD n d * gcdI n d) = Int.gcd n d := by
    rw [h1, h2]
    unfold sgnI absI
    split <;> split <;> simp
  rw [Int.gcd_mul_right] at e
  unfold gcdI at e h3
  rw [Int.natAbs_natCast] at e
  have h4 : 0 < Int.gcd n d := by omega
  exact Nat.eq_of_mul_eq_mul_right h4 (by omega)
theorem red_frac {n d B : Int} (h : d ≠ 0) (h1 : absI n ≤ B) (h2 : absI d ≤ B) : Frac B (redN n d) (redD n d) :=
  ⟨redD_pos h, Int.le_trans (redD_le h) h2, Int.le_trans (redN_le h) h1, red_gcd h⟩
theorem Frac.mono {B B' n d : Int} (h : Frac B n d) (hb : B ≤ B') : Frac B' n d := ⟨h.1, Int.le_trans h.2.1 hb, Int.le_trans h.2.2.1 hb, h.2.2.2⟩
theorem small_ok {g : Rng} (hg : g.Ok) : WG (m__law_small [] g) (fun d g' => g'.Ok ∧ fracI (Frac 17) d) := by
  refine WG_runG (by rfl) ?_
  show WV (b__law_small [.rng] g) _
  unfold b__law_small
  try simp
  refine draw_then hg (by decide) (by decide) fun z g1 h1 z0 z1 => ?_
  try simp
  refine choice_then h1 (by simp) (by simp) fun d g2 h3 h4 => ?_
  obtain ⟨k, rfl, k0, k1⟩ : ∃ k, d = .int k ∧ 0 < k ∧ k ≤ 4 := by
    simp at h4
    rcases h4 with rfl | rfl | rfl | rfl <;> exact ⟨_, rfl, by decide, by decide⟩
  have a1 : absI (z - 8) ≤ 17 := by unfold absI; split <;> omega
  have a2 : absI k ≤ 17 := by unfold absI; split <;> omega
  simp [reduce_ok (n := z - 8) (d := k) (by omega) (by omega) (by omega), h3]
  exact red_frac (by omega) a1 a2
theorem small_then {g : Rng} {Q : D → Rng → Prop} (hg : g.Ok) (k : ∀ n d g', g'.Ok → Frac 17 n d → Q (.tup [.int n, .int d]) g') : WG (m__law_small [] g) Q :=
  (small_ok hg).mono fun x g' ⟨h2, h3⟩ => by
    obtain ⟨n, d, rfl, f⟩ := fracI_get h3
    exact k n d g' h2 f

/-! equality of trees with themselves -/
def eqOk : Nat → D → Prop
  | 0, _ => False
  | n + 1, .tup l => l.length ≤ 1000 ∧ ∀ x, x ∈ l → eqOk n x
  | n + 1, .lst l => l.length ≤ 1000 ∧ ∀ x, x ∈ l → eqOk n x
  | _ + 1, .int _ => True
  | _ + 1, .bl _ => True
  | _ + 1, .str z => PyData.strOk z = true
  | _ + 1, .non => True
  | _ + 1, _ => False
theorem eqOk_mono : ∀ {n m : Nat} {d : D}, n ≤ m → eqOk n d → eqOk m d
  | 0, _, _, _, h => by simp [eqOk] at h
  | n + 1, 0, _, h, _ => by omega
  | n + 1, m + 1, d, h, hd => by
    cases d <;> simp only [eqOk] at hd ⊢ <;> first | exact hd | exact ⟨hd.1, fun x hx => eqOk_mono (by omega) (hd.2 x hx)⟩
theorem equal_lc (r : List D → Res D) (e0 e1 : Slot) (g : Rng) : ∀ l : List D, (∀ x, x ∈ l → r [x, x] = .ok (.bl true)) → lcL (gTp 2 (gsCons (gNm 2) (gsCons (gNm 3) gsNil))) mTrue (eCall r (aCons (eVar 2) (aCons (eVar 3) aNil))) ((l.zip l).map fun q => .tup [q.1, q.2]) [e0, e1, .un, .un] g = .ok (l.map fun _ => .bl true, g)
  | [], _ => by simp [lcL]
  | x :: l, h => by
    have h1 := equal_lc r e0 e1 g l fun y hy => h y (List.mem_cons_of_mem _ hy)
    simp [lcL, h x List.mem_cons_self]
    rw [h1]
    simp
theorem bools_true : ∀ l : List D, bools (l.map fun _ => .bl true) = some (l.map fun _ => true)
  | [] => by simp
  | x :: l => by simp [bools_true l]
theorem equal_refl : ∀ (n : Nat) (d : D), eqOk n d → m__law_equal n [d, d] = .ok (.bl true)
  | 0, _, h => by simp [eqOk] at h
  | n + 1, d, h => by
    rw [m__law_equal, runD, if_pos (by rfl)]
    show resD (b__law_equal _ [.sh d, .sh d, .un, .un] g0) = _
    unfold b__law_equal
    cases d with
    | int i => simp
    | bl i => simp
    | non => simp
    | str i => simp [dEq_ss (show PyData.strOk i = true from h) (show PyData.strOk i = true from h)]
    | tup l =>
      simp only [eqOk] at h
      have hl : ((l.zip l).map fun q => D.tup [q.1, q.2]).length ≤ 1000 := by simp; omega
      simp [aLc_, wipeE, Slot.isOw, hl]
      rw [if_pos (by omega), equal_lc _ _ _ _ l fun x hx => equal_refl n x (h.2 x hx)]
      simp [bools_true]
    | lst l =>
      simp only [eqOk] at h
      have hl : ((l.zip l).map fun q => D.tup [q.1, q.2]).length ≤ 1000 := by simp; omega
      simp [aLc_, wipeE, Slot.isOw, hl]
      rw [if_pos (by omega), equal_lc _ _ _ _ l fun x hx => equal_refl n x (h.2 x hx)]
      simp [bools_true]
    | dic k l => simp [eqOk] at h
    | ins c k l => simp [eqOk] at h

/-! trees as data: shaped, equal to themselves -/
theorem eqOk_lay : ∀ {n : Nat} {d : D}, eqOk n d → d.py.canLay0 = true ∧ d.py.depth ≤ n
  | 0, d, h => by simp [eqOk] at h
  | n + 1, d, h => by
    have all : ∀ l : List D, (∀ x, x ∈ l → eqOk n x) → PyData.canLayAll0 (D.pyL l) = true ∧ PyData.depthAll (D.pyL l) ≤ n := by
      intro l
      induction l with
      | nil => intro _; rw [D.pyL]; exact ⟨by rw [PyData.canLayAll0], by rw [PyData.depthAll]; omega⟩
      | cons x l ih =>
        intro hx
        obtain ⟨h1, h2⟩ := eqOk_lay (hx x List.mem_cons_self)
        obtain ⟨h3, h4⟩ := ih fun y hy => hx y (List.mem_cons_of_mem _ hy)
        rw [D.pyL]
        exact ⟨by rw [PyData.canLayAll0, h1, h3]; rfl, by rw [PyData.depthAll]; omega⟩
    cases d with
    | int i => simp [PyData.canLay0, PyData.depth]
    | bl i => simp [PyData.canLay0, PyData.depth]
    | non => simp [PyData.canLay0, PyData.depth]
    | str i => simp [PyData.canLay0, PyData.depth]; exact h
    | tup l =>
      simp only [eqOk] at h
      obtain ⟨h1, h2⟩ := all l h.2
      rw [D.py, PyData.canLay0, PyData.depth]
      exact ⟨h1, by omega⟩
    | lst l =>
      simp only [eqOk] at h
      obtain ⟨h1, h2⟩ := all l h.2
      rw [D.py, PyData.canLay0, PyData.depth]
      exact ⟨h1, by omega⟩
    | dic k l => simp [eqOk] at h
    | ins c k l => simp [eqOk] at h
theorem eqOk_shaped {n : Nat} {d : D} (h : eqOk n d) (hn : n ≤ 64) : SeqAt.shaped d.py = true := by
  obtain ⟨h1, h2⟩ := eqOk_lay h
  unfold SeqAt.shaped
  rw [h1, decide_eq_true (by omega)]
  rfl
theorem dEq_refl {n : Nat} {d : D} (h : eqOk n d) (hn : n ≤ 64) : dEq d d = .ok (.bl true) := by
  have s := eqOk_shaped h hn
  unfold dEq
  rw [if_pos ⟨s, s⟩, SeqAt.eqv_refl _ (eqOk_lay h).1]
theorem dNe_refl {n : Nat} {d : D} (h : eqOk n d) (hn : n ≤ 64) : dNe d d = .ok (.bl false) := by
  have s := eqOk_shaped h hn
  unfold dNe
  rw [if_pos ⟨s, s⟩, SeqAt.eqv_refl _ (eqOk_lay h).1]
  rfl
/-- a list against the empty one -/
theorem dNe_nil {n : Nat} {l : List D} (h : eqOk n (.lst l)) (hn : n ≤ 64) : dNe (.lst l) (.lst []) = .ok (.bl (!l.isEmpty)) := by
  have s := eqOk_shaped h hn
  have s2 : SeqAt.shaped (D.lst []).py = true := by decide +kernel
  unfold dNe
  rw [if_pos ⟨s, s2⟩]
  cases l with
  | nil => simp [PyData.eqv, PyData.eqvAll]
  | cons x l => simp [PyData.eqv, PyData.eqvAll]

/-! fractions as rationals -/
def frD (q : Rat) : D := .tup [.int q.num, .int (q.den : Int)]
def RB (a : Nat) (q : Rat) : Prop := q.num.natAbs < 2 ^ a ∧ q.den < 2 ^ a
theorem red_rat {n d : Int} (h : d ≠ 0) : redN n d = (Rat.divInt n d).num ∧ redD n d = ((Rat.divInt n d).den : Int) := by
  have sg : sgnI d = Int.sign d := by
    unfold sgnI
    by_cases h0 : 0 < d
    · rw [if_pos h0, Int.sign_eq_one_of_pos h0]
    · rw [if_neg h0, Int.sign_eq_neg_one_of_neg (by omega)]
  have ab : absI d = (d.natAbs : Int) := by unfold absI; split <;> omega
  constructor
  · rw [Rat.num_divInt, redN, sg, gcdI, Int.gcd_comm]
  · rw [Rat.den_divInt, if_neg h, redD, sgn_mul_abs, ab, gcdI, Int.gcd_comm, Int.natCast_ediv]
theorem rb_div {n d : Int} {a : Nat} (hn : n.natAbs < 2 ^ a) (hd : d.natAbs < 2 ^ a) (h : d ≠ 0) : RB a (Rat.divInt n d) := by
  obtain ⟨h1, h2⟩ := red_rat (n := n) h
  have l1 := redN_le (n := n) h
  have l2 := redD_le (n := n) h
  have l3 := redD_pos (n := n) h
  rw [h1] at l1
  rw [h2] at l2 l3
  constructor
  · have : (Rat.divInt n d).num.natAbs ≤ n.natAbs := by
      unfold absI at l1; split at l1 <;> split at l1 <;> omega
    omega
  · have : (Rat.divInt n d).den ≤ d.natAbs := by
      unfold absI at l2; split at l2 <;> omega
    omega
theorem reduce_rat {n d : Int} {a : Nat} (h : d ≠ 0) (n1 : n.natAbs < 2 ^ a) (d1 : d.natAbs < 2 ^ a) (ha : a ≤ 8000) : m__law_reduce [.int n, .int d] = .ok (frD (Rat.divInt n d)) := by
  have a0 : 0 ≤ absI n := by unfold absI; split <;> omega
  have b0 : 0 ≤ absI d := by unfold absI; split <;> omega
  have ap : 0 < a := by
    rcases Nat.eq_zero_or_pos a with rfl | q
    · simp at d1; omega
    · exact q
  have hl := reduce_loop (.sh (.int n)) (.sh (.int d)) .un g0 ((absI d).natAbs + 1) (absI n) (absI d) a0 b0 (by omega)
  rw [gcd_abs] at hl
  have gp := gcdI_pos (n := n) h
  have gl := gcdI_le (n := n) h
  have s1 : (sgnI d).natAbs < 2 ^ 1 := by unfold sgnI; split <;> decide
  have hs : ∀ x : Int, x.natAbs < 2 ^ a → dMul (.int (sgnI d)) (.int x) = .ok (.int (sgnI d * x)) := fun x hx => by
    rw [dMul_ii, if_pos (wide_mul s1 hx (by omega) ap (by omega))]
  have hg : ∀ x : Int, dFDiv (.int x) (.int (gcdI n d)) = .ok (.int (x / gcdI n d)) := fun x => by
    rw [dFDiv_ii, if_pos (wide_div (b := a) gp (by unfold absI at gl; split at gl <;> omega) ap (by omega))]
  have sg : ∀ g, (eIf (eTest (eOp dGt (eVar 1) (eC (.int 0)))) (eC (.int 1)) (eUn dNeg (eC (.int 1)))) [.sh (.int n), .sh (.int d), .sh (.int (gcdI n d)), .sh (.int 0), .un] g = .ok (.int (sgnI d), g) := fun g => by
    simp [sgnI]
    split <;> rfl
  have fr : frD (Rat.divInt n d) = .tup [.int (redN n d), .int (redD n d)] := by
    obtain ⟨h1, h2⟩ := red_rat (n := n) h
    unfold frD
    rw [h1, h2]
  rw [fr, m__law_reduce, runD, if_pos (by rfl)]
  show resD (b__law_reduce [.sh (.int n), .sh (.int d), .un, .un, .un] g0) = _
  unfold b__law_reduce
  rw [sSeq_]
  simp only [sPar_, aCons_, aNil_, eCall_, eVar_, bind_ok, pureG_ok', List.getElem?_cons_zero, List.getElem?_cons_succ, dAbs_, parK_, List.set_cons_zero, List.set_cons_succ, seqK_nx]
  rw [sSeq_, sWhile]
  show resD ((whileL _ _ ((absI d).natAbs + 1) [.sh (.int n), .sh (.int d), .sh (.int (absI n)), .sh (.int (absI d)), .un] g0).bind _) = _
  rw [hl]
  simp only [bind_ok, seqK_nx]
  rw [sSeq_, sAsg_, sg]
  simp [hs n n1, hs d d1, hg, redN, redD]
theorem add_div (p q : Rat) : Rat.divInt (p.num * q.den + q.num * p.den) (p.den * q.den) = p + q := by
  rw [Rat.add_def', ← Rat.divInt_ofNat, Int.natCast_mul]
theorem sub_div (p q : Rat) : Rat.divInt (p.num * q.den - q.num * p.den) (p.den * q.den) = p - q := by
  rw [Rat.sub_def', ← Rat.divInt_ofNat, Int.natCast_mul]
theorem mul_div (p q : Rat) : Rat.divInt (p.num * q.num) (p.den * q.den) = p * q := by
  rw [Rat.mul_def', ← Rat.divInt_ofNat, Int.natCast_mul]
theorem den_ne (p q : Rat) : (p.den : Int) * (q.den : Int) ≠ 0 := by
  have h1 := p.den_nz
  have h2 := q.den_nz
  exact Int.mul_ne_zero (by omega) (by omega)
theorem natAbs_lt_mul {i j : Int} {a b : Nat} (h1 : i.natAbs < 2 ^ a) (h2 : j.natAbs < 2 ^ b) : (i * j).natAbs < 2 ^ (a + b) := wide_lt h1 h2
theorem natAbs_add_lt {i j : Int} {a : Nat} (h1 : i.natAbs < 2 ^ a) (h2 : j.natAbs < 2 ^ a) : (i + j).natAbs < 2 ^ (a + 1) := by
  rw [Nat.pow_succ]; omega
theorem lt_up {n a b : Nat} (h : n < 2 ^ a) (hab : a ≤ b) : n < 2 ^ b := Nat.lt_of_lt_of_le h (Nat.pow_le_pow_right (by decide) hab)
theorem RB.up {a b : Nat} {q : Rat} (h : RB a q) (hab : a ≤ b) : RB b q := ⟨lt_up h.1 hab, lt_up h.2 hab⟩
theorem RB.pos {a : Nat} {q : Rat} (h : RB a q) : 0 < a := by
  rcases Nat.eq_zero_or_pos a with rfl | z
  · have := h.2
    have := q.den_nz
    simp at *; omega
  · exact z
theorem dMul_b {i j : Int} {a b : Nat} (h1 : i.natAbs < 2 ^ a) (h2 : j.natAbs < 2 ^ b) (ha : 0 < a) (hb : 0 < b) (h : a + b ≤ 100000) : dMul (.int i) (.int j) = .ok (.int (i * j)) := by
  rw [dMul_ii, if_pos (wide_mul h1 h2 ha hb (by omega))]
section
variable {p q : Rat} {a b : Nat} (hp : RB a p) (hq : RB b q)
include hp hq
theorem mul_nd : dMul (.int p.num) (.int (q.den : Int)) = .ok (.int (p.num * q.den)) ∨ 100000 < a + b := by
  by_cases h : a + b ≤ 100000
  · exact .inl (dMul_b hp.1 (by simpa using hq.2) hp.pos hq.pos h)
  · exact .inr (by omega)
theorem rb_add : (p.num * q.den + q.num * p.den).natAbs < 2 ^ (a + b + 1) ∧ ((p.den : Int) * q.den).natAbs < 2 ^ (a + b + 1) := by
  have h1 : (p.num * q.den).natAbs < 2 ^ (a + b) := natAbs_lt_mul hp.1 (by simpa using hq.2)
  have h2 : (q.num * p.den).natAbs < 2 ^ (a + b) := by rw [Nat.add_comm]; exact natAbs_lt_mul hq.1 (by simpa using hp.2)
  have h3 : ((p.den : Int) * q.den).natAbs < 2 ^ (a + b) := natAbs_lt_mul (by simpa using hp.2) (by simpa using hq.2)
  exact ⟨natAbs_add_lt h1 h2, lt_up h3 (by omega)⟩
theorem rb_sum : RB (a + b + 1) (p + q) := by
  obtain ⟨h1, h2⟩ := rb_add hp hq
  rw [← add_div]
  exact rb_div h1 h2 (den_ne p q)
end

/-! lists of fractions -/
theorem eqOk_fr {n : Nat} (q : Rat) : eqOk (n + 2) (frD q) := by simp [eqOk, frD]
theorem eqOk_frs {n : Nat} {qs : List Rat} (h : qs.length ≤ 1000) : eqOk (n + 3) (.lst (qs.map frD)) := by
  rw [eqOk]
  refine ⟨by simpa using h, fun x hx => ?_⟩
  obtain ⟨q, _, rfl⟩ := List.mem_map.mp hx
  exact eqOk_fr q
theorem frD_inj {p q : Rat} : PyData.eqv (frD p).py (frD q).py = decide (p = q) := by
  have : decide (p = q) = (p.num == q.num && (p.den : Int) == (q.den : Int)) := by
    rw [Bool.eq_iff_iff]
    simp only [decide_eq_true_eq, Bool.and_eq_true, beq_iff_eq]
    exact ⟨fun e => by rw [e]; exact ⟨rfl, rfl⟩, fun ⟨h1, h2⟩ => Rat.ext h1 (by omega)⟩
  rw [this]
  simp [frD, PyData.eqv, PyData.eqvAll]
theorem frac_rat {B n d : Int} {a : Nat} (f : Frac B n d) (hB : B < 2 ^ a) : ∃ q : Rat, D.tup [.int n, .int d] = frD q ∧ RB a q := by
  obtain ⟨h1, h2, h3, h4⟩ := f
  have hc : n.natAbs.Coprime d.natAbs := h4
  refine ⟨⟨n, d.natAbs, by omega, hc⟩, ?_, ?_, ?_⟩
  · have : ((d.natAbs : Nat) : Int) = d := by omega
    simp [frD, this]
  · have hp : ((2 ^ a : Nat) : Int) = 2 ^ a := by simp
    show n.natAbs < 2 ^ a
    unfold absI at h3
    split at h3 <;> omega
  · have hp : ((2 ^ a : Nat) : Int) = 2 ^ a := by simp
    show d.natAbs < 2 ^ a
    omega
theorem smallR_then {g : Rng} {Q : D → Rng → Prop} (hg : g.Ok) (k : ∀ q g', g'.Ok → RB 5 q → Q (frD q) g') : WG (m__law_small [] g) Q :=
  small_then hg fun n d g' h f => by
    obtain ⟨q, e, r⟩ := frac_rat (a := 5) f (by decide)
    rw [e]; exact k q g' h r
theorem rats_of : ∀ {l : List D} {a : Nat}, (∀ x, x ∈ l → ∃ q, x = frD q ∧ RB a q) → ∃ qs : List Rat, l = qs.map frD ∧ ∀ q, q ∈ qs → RB a q
  | [], a, _ => ⟨[], rfl, fun q hq => (List.not_mem_nil hq).elim⟩
  | d :: l, a, h => by
    obtain ⟨q, rfl, r⟩ := h d List.mem_cons_self
    obtain ⟨qs, rfl, rs⟩ := rats_of fun x hx => h x (List.mem_cons_of_mem _ hx)
    refine ⟨q :: qs, rfl, fun p hp => ?_⟩
    rcases List.mem_cons.mp hp with rfl | hp
    · exact r
    · exact rs p hp
/-- sums, from s on -/
def sumR (s : Rat) (qs : List Rat) : Rat := qs.foldl (· + ·) s
theorem sumR_from (s : Rat) (qs : List Rat) : sumR s qs = s + sumR 0 qs := by
  unfold sumR
  induction qs generalizing s with
  | nil => simp [Rat.add_zero]
  | cons q qs ih =>
    rw [List.foldl_cons, List.foldl_cons, ih (s + q), ih (0 + q), Rat.zero_add, Rat.add_assoc]
theorem rb_sumR {a : Nat} : ∀ {qs : List Rat} {s : Rat} {c : Nat}, RB c s → (∀ q, q ∈ qs → RB a q) → RB (c + (a + 1) * qs.length) (sumR s qs)
  | [], s, c, h, _ => by simpa [sumR] using h
  | q :: qs, s, c, h, hq => by
    have h1 := rb_sum h (hq q List.mem_cons_self)
    have h2 := rb_sumR h1 fun p hp => hq p (List.mem_cons_of_mem _ hp)
    have e : c + a + 1 + (a + 1) * qs.length = c + (a + 1) * (q :: qs).length := by
      rw [List.length_cons, Nat.mul_succ]; omega
    rw [e] at h2
    exact h2

theorem law_add_ok {p q : Rat} {a b : Nat} (hp : RB a p) (hq : RB b q) (h : a + b + 1 ≤ 8000) : m__law_add [frD p, frD q] = .ok (frD (p + q)) := by
  have e1 : dMul (.int p.num) (.int (q.den : Int)) = .ok (.int (p.num * q.den)) := dMul_b hp.1 (by simpa using hq.2) hp.pos hq.pos (by omega)
  have e2 : dMul (.int q.num) (.int (p.den : Int)) = .ok (.int (q.num * p.den)) := dMul_b hq.1 (by simpa using hp.2) hq.pos hp.pos (by omega)
  have e3 : dMul (.int (p.den : Int)) (.int (q.den : Int)) = .ok (.int (p.den * q.den)) := dMul_b (a := a) (b := b) (by simpa using hp.2) (by simpa using hq.2) hp.pos hq.pos (by omega)
  obtain ⟨h1, h2⟩ := rb_add hp hq
  rw [m__law_add, runD, if_pos (by rfl)]
  show resD (b__law_add [.sh (frD p), .sh (frD q)] g0) = _
  unfold b__law_add
  simp [frD, atI, ixN, e1, e2, e3]
  rw [reduce_rat (den_ne p q) h1 h2 (by omega), add_div]
  rfl

section
variable {p q : Rat} {a b : Nat} (hp : RB a p) (hq : RB b q)
include hp hq
theorem rb_sub : (p.num * q.den - q.num * p.den).natAbs < 2 ^ (a + b + 1) ∧ ((p.den : Int) * q.den).natAbs < 2 ^ (a + b + 1) := by
  have h1 : (p.num * q.den).natAbs < 2 ^ (a + b) := natAbs_lt_mul hp.1 (by simpa using hq.2)
  have h2 : (q.num * p.den).natAbs < 2 ^ (a + b) := by rw [Nat.add_comm]; exact natAbs_lt_mul hq.1 (by simpa using hp.2)
  have h3 : ((p.den : Int) * q.den).natAbs < 2 ^ (a + b) := natAbs_lt_mul (by simpa using hp.2) (by simpa using hq.2)
  refine ⟨?_, lt_up h3 (by omega)⟩
  rw [Int.sub_eq_add_neg]
  exact natAbs_add_lt h1 (by simpa using h2)
theorem rb_diff : RB (a + b + 1) (p - q) := by
  obtain ⟨h1, h2⟩ := rb_sub hp hq
  rw [← sub_div]
  exact rb_div h1 h2 (den_ne p q)
theorem rb_mul : (p.num * q.num).natAbs < 2 ^ (a + b) ∧ ((p.den : Int) * q.den).natAbs < 2 ^ (a + b) :=
  ⟨natAbs_lt_mul hp.1 hq.1, natAbs_lt_mul (by simpa using hp.2) (by simpa using hq.2)⟩
theorem rb_prod : RB (a + b) (p * q) := by
  obtain ⟨h1, h2⟩ := rb_mul hp hq
  rw [← mul_div]
  exact rb_div h1 h2 (den_ne p q)
end

theorem law_mul_ok {p q : Rat} {a b : Nat} (hp : RB a p) (hq : RB b q) (h : a + b + 1 ≤ 8000) : m__law_multiply [frD p, frD q] = .ok (frD (p * q)) := by
  have e1 : dMul (.int p.num) (.int q.num) = .ok (.int (p.num * q.num)) := dMul_b (a := a) (b := b) hp.1 hq.1 hp.pos hq.pos (by omega)
  have e2 : dMul (.int (p.den : Int)) (.int (q.den : Int)) = .ok (.int ((p.den : Int) * (q.den : Int))) := dMul_b (a := a) (b := b) (by simpa using hp.2) (by simpa using hq.2) hp.pos hq.pos (by omega)
  rw [m__law_multiply, runD, if_pos (by rfl)]
  show resD (b__law_multiply [.sh (frD p), .sh (frD q)] g0) = _
  unfold b__law_multiply
  simp [frD, atI, ixN, e1, e2]
  rw [reduce_rat (den_ne p q) (rb_mul hp hq).1 (rb_mul hp hq).2 (by omega), mul_div]
  rfl

theorem lsum_loop {a : Nat} (s0 : Slot) (g : Rng) : ∀ (qs : List Rat) (s : Rat) (c : Nat) (s3 : Slot), RB c s → (∀ q, q ∈ qs → RB a q) → c + (a + 1) * qs.length + 1 ≤ 8000 →
    ∃ s3', forL (gNm 2) (sAsg 1 (eCall m__law_add (aCons (eVar 1) (aCons (eVar 2) aNil)))) (qs.map frD) [s0, .sh (frD s), s3] g = .ok (.nx [s0, .sh (frD (sumR s qs)), s3'] g)
  | [], s, c, s3, _, _, _ => ⟨s3, by simp [forL, sumR]⟩
  | q :: qs, s, c, s3, h, hq, hb => by
    have hl : (a + 1) * (q :: qs).length = (a + 1) * qs.length + (a + 1) := by rw [List.length_cons, Nat.mul_succ]
    have e := law_add_ok h (hq q List.mem_cons_self) (by omega)
    obtain ⟨s3', ih⟩ := lsum_loop s0 g qs (s + q) (c + a + 1) (.sh (frD q)) (rb_sum h (hq q List.mem_cons_self)) (fun p hp => hq p (List.mem_cons_of_mem _ hp)) (by omega)
    refine ⟨s3', ?_⟩
    rw [List.map_cons, forL]
    simp [e]
    rw [ih]
    simp [sumR]
theorem frD_zero : D.tup [.int 0, .int 1] = frD 0 := rfl
theorem rb_zero : RB 1 0 := ⟨by decide, by decide⟩
theorem lsum_ok {a : Nat} {qs : List Rat} (hq : ∀ q, q ∈ qs → RB a q) (hb : (a + 1) * qs.length + 2 ≤ 8000) : m__law_sum [.lst (qs.map frD)] = .ok (frD (sumR 0 qs)) := by
  rw [m__law_sum, runD, if_pos (by rfl)]
  show resD (b__law_sum [.sh (.lst (qs.map frD)), .un, .un] g0) = _
  unfold b__law_sum
  obtain ⟨s3, e⟩ := lsum_loop (.sh (.lst (qs.map frD))) g0 qs 0 1 .un rb_zero hq (by omega)
  simp [frD_zero, e]

theorem borrow_one {pre post : En} {l : List D} {i : Nat} (h : pre.length = i) : borrow [i] (pre ++ .ow l :: post) = pre ++ .sh (.lst l) :: post := by
  apply List.ext_getElem?
  intro j
  unfold borrow
  rw [List.getElem?_mapIdx]
  by_cases c : j = i
  · subst c
    rw [List.getElem?_append_right (by omega), List.getElem?_append_right (by omega), h, Nat.sub_self]
    simp
  · have e : (pre ++ Slot.ow l :: post)[j]? = (pre ++ Slot.sh (.lst l) :: post)[j]? := by
      by_cases c2 : j < i
      · rw [List.getElem?_append_left (by omega), List.getElem?_append_left (by omega)]
      · rw [List.getElem?_append_right (by omega), List.getElem?_append_right (by omega)]
        obtain ⟨k, hk⟩ : ∃ k, j - pre.length = k + 1 := ⟨j - pre.length - 1, by omega⟩
        rw [hk, List.getElem?_cons_succ, List.getElem?_cons_succ]
    rw [e]
    cases (pre ++ Slot.sh (.lst l) :: post)[j]? with
    | none => rfl
    | some s => cases s <;> simp [c]
theorem WG_borE {B : List Nat} {f : ME} {e e' : En} {g : Rng} {Q : D → Rng → Prop} (hb : borrow B e = e') (h : WG (f e' g) (fun x g' => x.noLst = true ∧ Q x g')) : WG (borE B f e g) Q := by
  obtain ⟨x, g', e1, nl, hq⟩ := h.get
  rw [borE_, hb, e1]
  simp only [nl, if_true, WG_ok]
  exact hq

/-! drawn linear equations -/
def vecD (v : List Rat) : D := .lst (v.map frD)
def matD (M : List (List Rat)) : D := .lst (M.map vecD)
structure Lin (M : List (List Rat)) (ts : List Rat) : Prop where
  m1 : 1 ≤ M.length
  m5 : M.length ≤ 5
  w : ∃ w, 1 ≤ w ∧ w ≤ 5 ∧ ∀ r, r ∈ M → r.length = w
  t : ts.length = M.length
  rb : ∀ r, r ∈ M → ∀ q, q ∈ r → RB 20 q
  tb : ∀ q, q ∈ ts → RB 200 q
theorem lcL_sm {tf : TgF} {fe : ME} {e : En} {χ : List Rat → D} {P : List Rat → Prop} : ∀ {ds : List D} {g : Rng}, g.Ok → (∀ d, d ∈ ds → ∃ e1, tf d e = some e1 ∧ ∀ g, g.Ok → WG (fe e1 g) (fun x g' => g'.Ok ∧ ∃ u, x = χ u ∧ P u)) →
    WG (lcL tf mTrue fe ds e g) (fun l g' => g'.Ok ∧ ∃ us : List (List Rat), l = us.map χ ∧ us.length = ds.length ∧ ∀ u, u ∈ us → P u)
  | [], g, hg, _ => by rw [lcL, WG_ok]; exact ⟨hg, [], rfl, rfl, fun p h => by simp at h⟩
  | t :: ts, g, hg, h => by
    obtain ⟨e1, h1, h2⟩ := h t List.mem_cons_self
    rw [lcL]
    simp only [h1, mTrue_, bind_ok, if_true, WG_bind]
    refine (h2 g hg).mono fun x g1 ⟨hg1, u, ex, pu⟩ => ?_
    refine (lcL_sm hg1 fun z hz => h z (List.mem_cons_of_mem _ hz)).mono fun l g2 ⟨hg2, us, d1, d2, d3⟩ => ?_
    rw [WG_ok]
    refine ⟨hg2, u :: us, by rw [ex, d1]; rfl, by rw [List.length_cons, List.length_cons, d2], fun p hp => ?_⟩
    rcases List.mem_cons.mp hp with rfl | hp
    · exact pu
    · exact d3 p hp
theorem lcL_q {tf : TgF} {fe : ME} {e : En} {a : Nat} : ∀ {ds : List D} {g : Rng}, g.Ok → (∀ d, d ∈ ds → ∃ e1, tf d e = some e1 ∧ ∀ g, g.Ok → WG (fe e1 g) (fun x g' => g'.Ok ∧ ∃ q, x = frD q ∧ RB a q)) →
    WG (lcL tf mTrue fe ds e g) (fun l g' => g'.Ok ∧ ∃ qs : List Rat, l = qs.map frD ∧ qs.length = ds.length ∧ ∀ q, q ∈ qs → RB a q)
  | [], g, hg, _ => by rw [lcL, WG_ok]; exact ⟨hg, [], rfl, rfl, fun p h => by simp at h⟩
  | t :: ts, g, hg, h => by
    obtain ⟨e1, h1, h2⟩ := h t List.mem_cons_self
    rw [lcL]
    simp only [h1, mTrue_, bind_ok, if_true, WG_bind]
    refine (h2 g hg).mono fun x g1 ⟨hg1, u, ex, pu⟩ => ?_
    refine (lcL_q hg1 fun z hz => h z (List.mem_cons_of_mem _ hz)).mono fun l g2 ⟨hg2, us, d1, d2, d3⟩ => ?_
    rw [WG_ok]
    refine ⟨hg2, u :: us, by rw [ex, d1]; rfl, by rw [List.length_cons, List.length_cons, d2], fun p hp => ?_⟩
    rcases List.mem_cons.mp hp with rfl | hp
    · exact pu
    · exact d3 p hp
theorem zipQ : ∀ (x y : List Rat), ((x.map frD).zip (y.map frD)).map (fun q => D.tup [q.1, q.2]) = (x.zip y).map fun p => .tup [frD p.1, frD p.2]
  | [], y => by simp
  | _ :: _, [] => by simp
  | a :: x, b :: y => by simp [zipQ x y]
/-- products of two rows -/
theorem lc_prod {tf : TgF} {fe : ME} {e : En} {g : Rng} {x y : List Rat} (h : ∀ p, p ∈ x.zip y → ∃ e1, tf (.tup [frD p.1, frD p.2]) e = some e1 ∧ fe e1 g = .ok (frD (p.1 * p.2), g)) : lcL tf mTrue fe (((x.map frD).zip (y.map frD)).map fun q => D.tup [q.1, q.2]) e g = .ok (((x.zip y).map fun p => p.1 * p.2).map frD, g) := by
  rw [zipQ, List.map_map]
  exact lcL_mapT h
def dotR (x y : List Rat) : Rat := sumR 0 ((x.zip y).map fun p => p.1 * p.2)
theorem rb_dot {a b : Nat} {x y : List Rat} (hx : ∀ q, q ∈ x → RB a q) (hy : ∀ q, q ∈ y → RB b q) : RB (1 + (a + b + 1) * (x.zip y).length) (dotR x y) := by
  have := rb_sumR (a := a + b) (qs := (x.zip y).map fun p => p.1 * p.2) rb_zero fun q hq => by
    obtain ⟨p, hp, rfl⟩ := List.mem_map.mp hq
    exact rb_prod (hx _ (List.of_mem_zip hp).1) (hy _ (List.of_mem_zip hp).2)
  rwa [List.length_map] at this
theorem smallQ_then {g : Rng} {Q : D → Rng → Prop} (hg : g.Ok) (k : ∀ q g', g'.Ok → RB 5 q → Q (frD q) g') : WG (m__law_small [] g) Q := smallR_then hg k
theorem noLst_fr (q : Rat) : (frD q).noLst = true := rfl
theorem noLstL_frs : ∀ qs : List Rat, D.noLstL (qs.map frD) = true
  | [] => rfl
  | q :: qs => by rw [List.map_cons, D.noLstL, noLst_fr, noLstL_frs qs]; rfl
theorem ixNI {n : Nat} {z : Int} (h0 : 0 ≤ z) (h1 : z < n) : ixN n z = some z.toNat := by
  unfold ixN
  rw [if_pos h0, if_pos (by omega)]
theorem row_at {M : List (List Rat)} {z : Int} (h0 : 0 ≤ z) (h1 : z < M.length) : atI (M.map vecD) z = some (vecD (M[z.toNat]'(by omega))) := by
  unfold atI
  rw [List.length_map, ixNI h0 h1]
  show (M.map vecD)[z.toNat]? = _
  rw [List.getElem?_map, List.getElem?_eq_getElem (by omega)]
  rfl
@[irreducible] def LQ (n w : Nat) (o : Out) : Prop := ∃ (M : List (List Rat)) (s6 : Slot) (g' : Rng), o = .nx [.rng, .sh (.int n), .sh (.int w), .ow (M.map vecD), .un, .un, s6, .un, .un, .un, .un, .un] g' ∧ g'.Ok ∧ M.length = n ∧ ∀ r, r ∈ M → r.length = w ∧ ∀ q, q ∈ r → RB 20 q
theorem lq_get {n w : Nat} {o : Out} (h : LQ n w o) : ∃ (M : List (List Rat)) (s6 : Slot) (g' : Rng), o = .nx [.rng, .sh (.int n), .sh (.int w), .ow (M.map vecD), .un, .un, s6, .un, .un, .un, .un, .un] g' ∧ g'.Ok ∧ M.length = n ∧ ∀ r, r ∈ M → r.length = w ∧ ∀ q, q ∈ r → RB 20 q := by
  unfold LQ at h
  exact h
theorem lq_mk {n w : Nat} {M : List (List Rat)} {s6 : Slot} {g : Rng} (h : g.Ok) (hl : M.length = n) (hr : ∀ r, r ∈ M → r.length = w ∧ ∀ q, q ∈ r → RB 20 q) : LQ n w (.nx [.rng, .sh (.int n), .sh (.int w), .ow (M.map vecD), .un, .un, s6, .un, .un, .un, .un, .un] g) := by
  unfold LQ
  exact ⟨M, s6, g, rfl, h, hl, hr⟩
theorem lin_then {g : Rng} {Q : D → Rng → Prop} (hg : g.Ok) (k : ∀ M ts g', g'.Ok → Lin M ts → Q (.tup [matD M, vecD ts]) g') : WG (m__law_linear_case [] g) Q := by
  refine WG_runG (by rfl) ?_
  show WV (b__law_linear_case [.rng, .un, .un, .un, .un, .un, .un, .un, .un, .un, .un, .un] g) _
  unfold b__law_linear_case
  rw [sSeq_, WV_bindO]
  refine WV.mono (Q := fun o => ∃ (n w : Nat) (g' : Rng), o = .nx [.rng, .sh (.int n), .sh (.int w), .un, .un, .un, .un, .un, .un, .un, .un, .un] g' ∧ g'.Ok ∧ 1 ≤ n ∧ n ≤ 5 ∧ 1 ≤ w ∧ w ≤ 5) ?_ ?_
  · simp
    refine draw_then hg (by decide) (by decide) fun z1 g1 h1 a0 a1 => ?_
    simp
    refine draw_then h1 (by decide) (by decide) fun z2 g2 h2 b0 b1 => ?_
    obtain ⟨n, hn⟩ : ∃ n : Nat, 1 + z1 = n := ⟨(1 + z1).toNat, by omega⟩
    obtain ⟨w, hw⟩ : ∃ n : Nat, 1 + z2 = n := ⟨(1 + z2).toNat, by omega⟩
    rw [hn]
    simp [hw]
    exact ⟨n, w, g2, ⟨⟨rfl, rfl⟩, rfl⟩, h2, by omega, by omega, by omega, by omega⟩
  rintro o ⟨n, w, g1, rfl, h1, n1, n5, w1, w5⟩
  -- the rows
  rw [seqK_nx, sSeq_, WV_bindO]
  refine WV.mono (Q := fun o => ∃ (M : List (List Rat)) (g' : Rng), o = .nx [.rng, .sh (.int n), .sh (.int w), .ow (M.map vecD), .un, .un, .un, .un, .un, .un, .un, .un] g' ∧ g'.Ok ∧ M.length = n ∧ ∀ r, r ∈ M → r.length = w ∧ ∀ q, q ∈ r → RB 5 q) ?_ ?_
  · simp [aLc_, Slot.isOw, wipeE, iRK_1, show -100000 ≤ (n : Int) by omega, show (n : Int) ≤ 100000 by omega, show n ≤ 1000 by omega]
    refine WG_noErr ((lcL_sm (tf := gNm 7) (χ := vecD) (P := fun r => r.length = w ∧ ∀ q, q ∈ r → RB 5 q) h1 fun d hd => ⟨_, rfl, fun g hg => ?_⟩).mono ?_)
    · simp [aLc_, Slot.isOw, wipeE, iRK_1, show -100000 ≤ (w : Int) by omega, show (w : Int) ≤ 100000 by omega, show w ≤ 1000 by omega]
      refine WG_noErr ((lcL_q (tf := gNm 8) (a := 5) hg fun d hd => ⟨_, rfl, fun g hg => ?_⟩).mono ?_)
      · simp
        refine smallQ_then hg fun q g' hg' hq => ?_
        refine choice_then hg' (by simp) (by simp) fun x g2 h2 hx => ⟨h2, ?_⟩
        simp only [List.mem_cons, List.not_mem_nil, or_false] at hx
        rcases hx with rfl | rfl
        · exact ⟨0, rfl, rb_zero.up (by decide)⟩
        · exact ⟨q, rfl, hq⟩
      · rintro l g' ⟨a1, qs, rfl, a3, a4⟩
        rw [length_rangeD] at a3
        exact ⟨a1, qs, rfl, a3, a4⟩
    · rintro l g' ⟨a1, us, rfl, a3, a4⟩
      rw [length_rangeD] at a3
      exact ⟨us, g', ⟨rfl, rfl⟩, a1, a3, a4⟩
  rintro o ⟨M, g2, rfl, h2, hl, hr⟩
  have b3 : ∀ (s4 s5 s6 : Slot) (M : List (List Rat)), borrow [3] [.rng, .sh (.int n), .sh (.int w), .ow (M.map vecD), s4, s5, s6, .un, .un, .un, .un, .un] = [.rng, .sh (.int n), .sh (.int w), .sh (matD M), s4, s5, s6, .un, .un, .un, .un, .un] := fun s4 s5 s6 M => borrow_one (pre := [.rng, .sh (.int n), .sh (.int w)]) rfl
  -- one row depends on two others
  rw [seqK_nx, sSeq_, WV_bindO]
  refine WV.mono (Q := LQ n w) ?_ ?_
  · by_cases c1 : 1 < n
    · simp [show (1 : Int) < n by omega]
      refine draw_then h2 (by decide) (by decide) fun z g3 h3 z0 z1 => ?_
      by_cases c2 : z = 0
      · simp [c2]
        refine smallQ_then h3 fun q g4 h4 hq => ?_
        have hn : 0 < M.length := by omega
        have i0 := row_at (M := M) (z := 0) (by decide) (by omega)
        have i1 := row_at (M := M) (z := (n : Int) - 1) (by omega) (by omega)
        generalize hx : M[Int.toNat 0]'(by simp; omega) = x at i0
        generalize hy : M[((n : Int) - 1).toNat]'(by omega) = y at i1
        have rx := hr x (by rw [← hx]; exact List.getElem_mem _)
        have ry := hr y (by rw [← hy]; exact List.getElem_mem _)
        have lc := lcL_mapT (tf := gTp 2 (gsCons (gNm 10) (gsCons (gNm 11) gsNil))) (fe := eCall m__law_add (aCons (eVar 10) (aCons (eCall m__law_multiply (aCons (eVar 6) (aCons (eVar 11) aNil))) aNil))) (e := [.rng, .sh (.int n), .sh (.int w), .sh (matD M), .un, .un, .sh (frD q), .un, .un, .un, .un, .un]) (g := g4) (φ := fun p : Rat × Rat => .tup [frD p.1, frD p.2]) (ψ := fun p => frD (p.1 + q * p.2)) (ts := x.zip y) fun p hp => ⟨_, rfl, by
          have e1 := law_mul_ok (p := q) (q := p.2) hq (ry.2 _ (List.of_mem_zip hp).2) (by decide)
          have e2 := law_add_ok (p := p.1) (q := q * p.2) (rx.2 _ (List.of_mem_zip hp).1) (rb_prod hq (ry.2 _ (List.of_mem_zip hp).2)) (by decide)
          simp [e1, e2]⟩
        rw [← zipQ] at lc
        have zl : (x.zip y).length = w := by rw [List.length_zip, rx.1, ry.1]; omega
        have bf : borF [3] (aLc [10, 11] (iZipD (aCons (eOp dIx (eVar 3) (eC (.int 0))) (aCons (eOp dIx (eVar 3) (eOp dSub (eVar 1) (eC (.int 1)))) aNil))) (gTp 2 (gsCons (gNm 10) (gsCons (gNm 11) gsNil))) mTrue (eCall m__law_add (aCons (eVar 10) (aCons (eCall m__law_multiply (aCons (eVar 6) (aCons (eVar 11) aNil))) aNil)))) [.rng, .sh (.int n), .sh (.int w), .ow (M.map vecD), .un, .un, .sh (frD q), .un, .un, .un, .un, .un] g4 = .ok (((x.zip y).map fun p => p.1 + q * p.2).map frD, g4) := by
          unfold borF
          rw [b3]
          have ii0 : dIx (matD M) (.int 0) = .ok (vecD x) := by unfold matD; rw [dIx_lst, i0]
          have ii1 : dIx (matD M) (.int ((n : Int) - 1)) = .ok (vecD y) := by unfold matD; rw [dIx_lst, i1]
          have hmin : min (x.length) (y.length) ≤ 1000 := by rw [rx.1, ry.1]; omega
          unfold vecD at ii0 ii1
          simp [aLc_, Slot.isOw, wipeE, ii0, ii1, dZip, lc, hmin]
          have := noLstL_frs ((x.zip y).map fun p => p.1 + q * p.2)
          rw [List.map_map] at this
          exact if_pos this
        unfold sSetI
        simp only [List.getElem?_cons_zero, List.getElem?_cons_succ]
        rw [WV_bind, eOfL_, bf, bind_ok, WG_ok]
        simp
        refine draw_then h4 (by omega) (by omega) fun z5 g5 h5 y0 y1 => ?_
        have ix : ixN (M.map vecD).length z5 = some z5.toNat := by rw [List.length_map]; exact ixNI y0 (by omega)
        rw [List.length_map] at ix
        simp [ix]
        have es : (M.map vecD).set z5.toNat (.lst (((x.zip y).map fun p => p.1 + q * p.2).map frD)) = (M.set z5.toNat ((x.zip y).map fun p => p.1 + q * p.2)).map vecD := by rw [List.map_set]; rfl
        rw [List.map_map] at es
        rw [es]
        refine lq_mk h5 (by rw [List.length_set]; exact hl) fun r hr' => ?_
        rcases List.mem_or_eq_of_mem_set hr' with hr' | rfl
        · exact ⟨(hr r hr').1, fun q hq => ((hr r hr').2 q hq).up (by decide)⟩
        · refine ⟨by rw [List.length_map]; exact zl, fun u hu => ?_⟩
          obtain ⟨p, hp, rfl⟩ := List.mem_map.mp hu
          exact (rb_sum (rx.2 _ (List.of_mem_zip hp).1) (rb_prod hq (ry.2 _ (List.of_mem_zip hp).2))).up (by decide)
      · simp [c2]
        exact lq_mk h3 hl fun r h => ⟨(hr r h).1, fun q hq => ((hr r h).2 q hq).up (by decide)⟩
    · simp [show ¬ (1 : Int) < n by omega]
      exact lq_mk h2 hl fun r h => ⟨(hr r h).1, fun q hq => ((hr r h).2 q hq).up (by decide)⟩
  rintro o ho
  obtain ⟨M, s6, g3, rfl, h3, hl, hr⟩ := lq_get ho
  clear ho
  -- a solution
  rw [seqK_nx, sSeq_, WV_bindO]
  refine WV.mono (Q := fun o => ∃ (ms : List Rat) (g' : Rng), o = .nx [.rng, .sh (.int n), .sh (.int w), .ow (M.map vecD), .sh (vecD ms), .un, s6, .un, .un, .un, .un, .un] g' ∧ g'.Ok ∧ ms.length = w ∧ ∀ q, q ∈ ms → RB 5 q) ?_ ?_
  · simp [aLc_, Slot.isOw, wipeE, iRK_1, show -100000 ≤ (w : Int) by omega, show (w : Int) ≤ 100000 by omega, show w ≤ 1000 by omega]
    refine WG_noErr ((lcL_q (tf := gNm 8) (a := 5) h3 fun d hd => ⟨_, rfl, fun g hg => ?_⟩).mono ?_)
    · simp
      exact smallQ_then hg fun q g' hg' hq => ⟨hg', q, rfl, hq⟩
    · rintro l g' ⟨a1, qs, rfl, a3, a4⟩
      rw [length_rangeD] at a3
      exact ⟨qs, g', ⟨rfl, rfl⟩, a1, a3, a4⟩
  rintro o ⟨ms, g4, rfl, h4, ml, mb⟩
  -- the targets
  have dots : ∀ r, r ∈ M → RB 200 (dotR r ms) := fun r h => by
    have := rb_dot (a := 20) (b := 5) (x := r) (y := ms) (hr r h).2 mb
    refine this.up ?_
    rw [List.length_zip, (hr r h).1, ml]
    have : min w w ≤ 5 := by omega
    have := Nat.mul_le_mul_left 26 this
    omega
  have rowlc : ∀ r, r ∈ M → ∀ (s5 : Slot) (s7 s8 s10 s11 : Slot), lcL (gTp 2 (gsCons (gNm 10) (gsCons (gNm 11) gsNil))) mTrue (eCall m__law_multiply (aCons (eVar 10) (aCons (eVar 11) aNil))) (((r.map frD).zip (ms.map frD)).map fun q => D.tup [q.1, q.2]) [.rng, .sh (.int n), .sh (.int w), .sh (matD M), .sh (vecD ms), s5, s6, s7, s8, .sh (vecD r), s10, s11] g4 = .ok (((r.zip ms).map fun p => p.1 * p.2).map frD, g4) := fun r h s5 s7 s8 s10 s11 => lc_prod fun p hp => ⟨_, rfl, by
    have := law_mul_ok (p := p.1) (q := p.2) ((hr r h).2 _ (List.of_mem_zip hp).1) (mb _ (List.of_mem_zip hp).2) (by decide)
    simp [this]⟩
  have b3' := b3
  rw [seqK_nx, sSeq_, WV_bindO]
  refine WV.mono (Q := fun o => ∃ ts : List Rat, o = .nx [.rng, .sh (.int n), .sh (.int w), .sh (matD M), .sh (vecD ms), .ow (ts.map frD), s6, .un, .un, .un, .un, .un] g4 ∧ ts.length = n ∧ ∀ q, q ∈ ts → RB 200 q) ?_ ?_
  · unfold sFrz
    rw [b3]
    have lc := lcL_mapT (tf := gNm 9) (fe := eCall m__law_sum (aCons (eOfL (aLc [10, 11] (iZipD (aCons (eVar 9) (aCons (eVar 4) aNil))) (gTp 2 (gsCons (gNm 10) (gsCons (gNm 11) gsNil))) mTrue (eCall m__law_multiply (aCons (eVar 10) (aCons (eVar 11) aNil))))) aNil)) (e := [.rng, .sh (.int n), .sh (.int w), .sh (matD M), .sh (vecD ms), .un, s6, .un, .un, .un, .un, .un]) (g := g4) (φ := vecD) (ψ := fun r => frD (dotR r ms)) (ts := M) fun r h => ⟨_, rfl, by
      have e1 := rowlc r h .un .un .un .un .un
      have zl : min r.length ms.length ≤ 1000 := by rw [(hr r h).1, ml]; omega
      have e2 := lsum_ok (a := 25) (qs := (r.zip ms).map fun p => p.1 * p.2) (fun q hq => by
        obtain ⟨p, hp, rfl⟩ := List.mem_map.mp hq
        exact rb_prod ((hr r h).2 _ (List.of_mem_zip hp).1) (mb _ (List.of_mem_zip hp).2)) (by rw [List.length_map, List.length_zip, (hr r h).1, ml]; omega)
      unfold vecD at e1
      simp [aLc_, Slot.isOw, wipeE, dZip, vecD, e1, zl] at e2 ⊢
      simp [e2]
      rfl⟩
    have hd : dItems (matD M) = .ok (M.map vecD) := rfl
    simp [aLc_, Slot.isOw, wipeE, hd, lc, show M.length ≤ 1000 by omega]
    refine ⟨M.map fun r => dotR r ms, ?_, by rw [List.length_map]; exact hl, fun q hq => ?_⟩
    · rw [List.map_map]; rfl
    · obtain ⟨r, h, rfl⟩ := List.mem_map.mp hq
      exact dots r h
  rintro o ⟨ts, rfl, tl, tb⟩
  rw [seqK_nx, sSeq_, WV_bindO]
  refine WV.mono (Q := fun o => ∃ (ts : List Rat) (g' : Rng), o = .nx [.rng, .sh (.int n), .sh (.int w), .sh (matD M), .sh (vecD ms), .ow (ts.map frD), s6, .un, .un, .un, .un, .un] g' ∧ g'.Ok ∧ ts.length = n ∧ ∀ q, q ∈ ts → RB 200 q) ?_ ?_
  · simp
    refine draw_then h4 (by decide) (by decide) fun z g5 h5 z0 z1 => ?_
    by_cases c : z = 0
    · simp [c, sSetI]
      refine smallQ_then h5 fun q g6 h6 hq => ?_
      refine draw_then h6 (by omega) (by omega) fun z7 g7 h7 y0 y1 => ?_
      have ix : ixN ts.length z7 = some z7.toNat := ixNI y0 (by omega)
      simp [ix]
      have es : (ts.map frD).set z7.toNat (frD q) = (ts.set z7.toNat q).map frD := by rw [List.map_set]
      rw [es]
      refine ⟨ts.set z7.toNat q, g7, ⟨rfl, rfl⟩, h7, by rw [List.length_set]; exact tl, fun u hu => ?_⟩
      rcases List.mem_or_eq_of_mem_set hu with hu | rfl
      · exact tb u hu
      · exact hq.up (by decide)
    · simp [c]
      exact ⟨ts, g5, ⟨rfl, rfl⟩, h5, tl, tb⟩
  rintro o ⟨ts, g5, rfl, h5, tl, tb⟩
  rw [seqK_nx, sRet_]
  have b5 : borrow [5] [.rng, .sh (.int n), .sh (.int w), .sh (matD M), .sh (vecD ms), .ow (ts.map frD), s6, .un, .un, .un, .un, .un] = [.rng, .sh (.int n), .sh (.int w), .sh (matD M), .sh (vecD ms), .sh (vecD ts), s6, .un, .un, .un, .un, .un] := borrow_one (pre := [.rng, .sh (.int n), .sh (.int w), .sh (matD M), .sh (vecD ms)]) rfl
  rw [b5]
  simp
  exact k M ts g5 h5 ⟨by omega, by omega, ⟨w, w1, w5, fun r h => (hr r h).1⟩, by omega, fun r h => (hr r h).2, tb⟩

def enumD (i : Nat) (l : List D) : List D := (l.mapIdx fun j d => .tup [.int ((i + j : Nat) : Int), d])
theorem enumD_cons (i : Nat) (d : D) (l : List D) : enumD i (d :: l) = .tup [.int (i : Int), d] :: enumD (i + 1) l := by
  unfold enumD
  rw [List.mapIdx_cons]
  congr 1
  apply List.ext_getElem?
  intro n
  simp [List.getElem?_mapIdx]
  cases l[n]? with
  | none => rfl
  | some x => simp; omega

/-- texts that are written out -/
theorem dEq_lit {a b : Str} {c : Bool} (h : (PyData.strOk a && PyData.strOk b && ((a == b) == c)) = true) : dEq (.str a) (.str b) = .ok (.bl c) := by
  obtain ⟨h1, h2⟩ := Bool.and_eq_true_iff.mp h
  obtain ⟨h3, h4⟩ := Bool.and_eq_true_iff.mp h1
  rw [dEq_ss h3 h4, eq_of_beq h2]

/-! the shape -/
def xShape (z : Int) : Exc := ⟨"InvalidShape", ["pos", "tag"], [.int z, .str "InvalidShape"]⟩
def shapeTf : TgF := gTp 2 (gsCons (gNm 2) (gsCons (gNm 3) gsNil))
def shapeB : MS := sIf (eTest (eOp dNe (eCall dLen (aCons (eVar 3) aNil)) (eCall dLen (aCons (eOp dIx (eVar 0) (eC (.int 0))) aNil)))) (sRaise1 "InvalidShape" "pos" (aCons (eVar 2) aNil)) sNx
theorem shape_loop (r0 : List D) (rs : List (List D)) (s1 : Slot) : ∀ (l : List (List D)) (k : Nat) (s2 s3 : Slot),
    match l.findIdx? (fun r => !decide (r.length = r0.length)) with
    | some i => forL shapeTf shapeB (enumD k (l.map D.lst)) [.sh (.lst ((r0 :: rs).map D.lst)), s1, s2, s3] g0 = .err (xShape ((k + i : Nat) : Int))
    | none => ∃ s2' s3', forL shapeTf shapeB (enumD k (l.map D.lst)) [.sh (.lst ((r0 :: rs).map D.lst)), s1, s2, s3] g0 = .ok (.nx [.sh (.lst ((r0 :: rs).map D.lst)), s1, s2', s3'] g0)
  | [], k, s2, s3 => by
    simp [forL, enumD]
  | r :: l, k, s2, s3 => by
    have ih := shape_loop r0 rs s1 l (k + 1) (.sh (.int (k : Nat))) (.sh (.lst r))
    have a0 : atI (D.lst r0 :: rs.map D.lst) 0 = some (.lst r0) := by simp [atI, ixN]
    have tf : shapeTf (.tup [.int (k : Nat), .lst r]) [.sh (.lst ((r0 :: rs).map D.lst)), s1, s2, s3] = some [.sh (.lst ((r0 :: rs).map D.lst)), s1, .sh (.int (k : Nat)), .sh (.lst r)] := rfl
    rw [List.map_cons, enumD_cons, List.findIdx?_cons]
    by_cases c : r.length = r0.length
    · have b : shapeB [.sh (.lst ((r0 :: rs).map D.lst)), s1, .sh (.int (k : Nat)), .sh (.lst r)] g0 = .ok (.nx [.sh (.lst ((r0 :: rs).map D.lst)), s1, .sh (.int (k : Nat)), .sh (.lst r)] g0) := by
        unfold shapeB
        simp [a0, c]
      rw [forL]
      simp only [tf, b, bind_ok, c, decide_true, Bool.not_true, Bool.false_eq_true, if_false]
      cases h : l.findIdx? (fun r => !decide (r.length = r0.length)) with
      | some i =>
        rw [h] at ih
        simp only [Option.map_some]
        rw [ih]
        congr 2
        omega
      | none =>
        rw [h] at ih
        exact ih
    · have b : shapeB [.sh (.lst ((r0 :: rs).map D.lst)), s1, .sh (.int (k : Nat)), .sh (.lst r)] g0 = .err (xShape (k : Nat)) := by
        unfold shapeB
        have c' : ¬ (r.length : Int) = r0.length := by omega
        simp [a0, c']
        rfl
      rw [forL]
      simp only [tf, b, bind_err, c, decide_false, Bool.not_false, if_true]
      rfl
/-- the first fault of the shape -/
def shapeErr (rs : List (List D)) (ts : List D) : Option Nat := match rs with
  | [] => if ts.length = 0 then none else some 0
  | r0 :: rs => match (r0 :: rs).findIdx? (fun r => !decide (r.length = r0.length)) with
    | some i => some i
    | none => if ts.length = (r0 :: rs).length then none else some (r0 :: rs).length
theorem enum0 (l : List D) : l.mapIdx (fun i d => D.tup [.int (i : Nat), d]) = enumD 0 l := by
  unfold enumD
  simp
theorem shape_ok (rs : List (List D)) (ts : List D) : m_check_shape [.lst (rs.map D.lst), .lst ts] = match shapeErr rs ts with
    | some i => .err (xShape (i : Nat))
    | none => .ok .non := by
  rw [m_check_shape, runD, if_pos (by rfl)]
  show resD (b_check_shape [.sh (.lst (rs.map D.lst)), .sh (.lst ts), .un, .un] g0) = _
  have hb : b_check_shape = sSeq (sFor (iEnumD (aCons (eVar 0) aNil)) shapeTf shapeB) (sIf (eTest (eOp dNe (eCall dLen (aCons (eVar 1) aNil)) (eCall dLen (aCons (eVar 0) aNil)))) (sRaise1 "InvalidShape" "pos" (aCons (eCall dLen (aCons (eVar 0) aNil)) aNil)) sNx) := rfl
  rw [hb, sSeq_, sFor_]
  have en : dEnum [.lst (rs.map D.lst)] = .ok (enumD 0 (rs.map D.lst)) := by rw [← enum0]; rfl
  simp only [iEnumD_, aCons_, aNil_, eVar_, List.getElem?_cons_zero, bind_ok, en]
  have fin : ∀ (s2 s3 : Slot), (sIf (eTest (eOp dNe (eCall dLen (aCons (eVar 1) aNil)) (eCall dLen (aCons (eVar 0) aNil)))) (sRaise1 "InvalidShape" "pos" (aCons (eCall dLen (aCons (eVar 0) aNil)) aNil)) sNx) [.sh (.lst (rs.map D.lst)), .sh (.lst ts), s2, s3] g0 = if ts.length = rs.length then .ok (.nx [.sh (.lst (rs.map D.lst)), .sh (.lst ts), s2, s3] g0) else .err (xShape (rs.length : Nat)) := fun s2 s3 => by
    by_cases c : ts.length = rs.length
    · simp [c]
    · have c' : ¬ (ts.length : Int) = rs.length := by omega
      simp [c, c']
      simp [sRaise1]
      rfl
  cases rs with
  | nil =>
    have : forL shapeTf shapeB (enumD 0 (([] : List (List D)).map D.lst)) [.sh (.lst (([] : List (List D)).map D.lst)), .sh (.lst ts), .un, .un] g0 = .ok (.nx [.sh (.lst (([] : List (List D)).map D.lst)), .sh (.lst ts), .un, .un] g0) := rfl
    rw [this, bind_ok, seqK_nx, fin]
    unfold shapeErr
    simp only [List.length_nil]
    by_cases c : ts.length = 0
    · rw [if_pos c, if_pos c]; rfl
    · rw [if_neg c, if_neg c]; rfl
  | cons r0 rs =>
    have sl := shape_loop r0 rs (.sh (.lst ts)) (r0 :: rs) 0 .un .un
    unfold shapeErr
    simp only
    cases h : (r0 :: rs).findIdx? (fun r => !decide (r.length = r0.length)) with
    | some i =>
      rw [h] at sl
      simp only at sl
      rw [sl, Nat.zero_add]
      rfl
    | none =>
      rw [h] at sl
      obtain ⟨s2, s3, sl⟩ := sl
      rw [sl, bind_ok, seqK_nx, fin]
      by_cases c : ts.length = (r0 :: rs).length
      · rw [if_pos c, if_pos c]; rfl
      · rw [if_neg c, if_neg c]; rfl
theorem inT {s : Str} {l : List D} {b : Bool} (h1 : l.all D.isFlat = true) (h2 : dMem (.str s) l = b) : dInS (.str s) (.tup l) = .ok (.bl b) := by
  rw [dInS_st h1, h2]
theorem ocD_shape (z : Int) : ocD sel1 sel2 m__law_error_field (xShape z) = .ok (.tup [.non, .str "InvalidShape", .int z]) := by
  have q1 : dInS (.str "InvalidShape") (.tup [.str "InvalidTerm", .str "InvalidName", .str "TermTooLarge", .str "DuplicateName", .str "SystemInUse", .str "UnknownEvent", .str "UnknownSystem", .str "UnknownRun"]) = .ok (.bl false) := inT (by decide +kernel) (by decide +kernel)
  have q2 : dInS (.str "InvalidShape") (.tup [.str "InvalidRound", .str "InvalidLimit"]) = .ok (.bl false) := inT (by decide +kernel) (by decide +kernel)
  have q3 : dInS (.str "InvalidShape") (.tup [.str "InvalidShape", .str "ParseError"]) = .ok (.bl true) := inT (by decide +kernel) (by decide +kernel)
  have t1 : eXf 0 "tag" [.ex (xShape z)] g0 = .ok (.str "InvalidShape", g0) := rfl
  have t2 : eXf 0 "pos" [.ex (xShape z)] g0 = .ok (.int z, g0) := rfl
  have e1 : m__law_error_field (xShape z) = .ok (.int z) := by
    show resD (b__law_error_field [.ex (xShape z)] g0) = _
    unfold b__law_error_field
    rw [sSeq_]
    simp [t1, t2, q1, q2, q3]
  unfold ocD
  rw [show ((xShape z).ns.zip (xShape z).l).lookup ("tag" : Str) = some (.str "InvalidShape") from rfl]
  show (if sel1 "InvalidShape" = true then _ else if sel2 "InvalidShape" = true then _ else _) = _
  rw [if_pos (by decide), e1]
  rfl
theorem err_ok {fb : ME} {oc : Exc → Res D} {e : En} {g : Rng} {x : Exc} {t f : D} (h : fb (lamE e) g0 = .err x) (h2 : oc x = .ok (.tup [.non, t, f])) : eErr fb oc e g = .ok (.tup [t, f], g) := by
  unfold eErr
  rw [outc_err h h2]
  rfl
theorem solve_err {rs : List (List D)} {ts : List D} {i : Nat} (h : shapeErr rs ts = some i) : m_solve_linear [.lst (rs.map D.lst), .lst ts] = .err (xShape (i : Nat)) := by
  have e := shape_ok rs ts
  rw [h] at e
  have e' : m_check_shape [.lst (rs.map D.lst), .lst ts] = .err (xShape (i : Nat)) := e
  rw [m_solve_linear, runD, if_pos (by rfl)]
  show resD (b_solve_linear [.sh (.lst (rs.map D.lst)), .sh (.lst ts), .un, .un, .un, .un, .un, .un, .un, .un, .un, .un, .un, .un, .un] g0) = _
  unfold b_solve_linear
  rw [sSeq_]
  simp [e']
theorem checks_err {rs : List (List D)} {ts : List D} {i : Nat} {x : D} (h : shapeErr rs ts = some i) : m_check_solution [.lst (rs.map D.lst), .lst ts, x] = .err (xShape (i : Nat)) := by
  have e := shape_ok rs ts
  rw [h] at e
  have e' : m_check_shape [.lst (rs.map D.lst), .lst ts] = .err (xShape (i : Nat)) := e
  rw [m_check_solution, runD, if_pos (by rfl)]
  show resD (b_check_solution [.sh (.lst (rs.map D.lst)), .sh (.lst ts), .sh x, .un, .un, .un, .un, .un, .un, .un, .un, .un, .un, .un] g0) = _
  unfold b_check_solution
  rw [sSeq_]
  simp [e']
theorem sh_row {rs : List (List D)} {ts : List D} {r : List D} {w p : Nat} (hp : 0 < p) (hl : p < rs.length) (hw : ∀ x, x ∈ rs → x.length = w) (hr : r.length ≠ w) : shapeErr (rs.set p r) ts = some p := by
  match rs, hl with
  | r0 :: rs, hl =>
    obtain ⟨q, rfl⟩ : ∃ q, p = q + 1 := ⟨p - 1, by omega⟩
    rw [List.set_cons_succ]
    have h0 := hw r0 List.mem_cons_self
    unfold shapeErr
    simp only
    have key : ∀ (l : List (List D)) (q : Nat), q < l.length → (∀ x, x ∈ l → x.length = w) → (l.set q r).findIdx? (fun r => !decide (r.length = r0.length)) = some q := by
      intro l
      induction l with
      | nil => intro q h _; simp at h
      | cons a l ih =>
        intro q h hx
        cases q with
        | zero =>
          rw [List.set_cons_zero, List.findIdx?_cons]
          simp [h0, hr]
        | succ q =>
          rw [List.set_cons_succ, List.findIdx?_cons]
          have := ih q (by simpa using h) fun x hx' => hx x (List.mem_cons_of_mem _ hx')
          simp [h0, hx a List.mem_cons_self, this]
          rw [h0] at this
          simpa using this
    have := key rs q (by simpa using hl) fun x hx => hw x (List.mem_cons_of_mem _ hx)
    rw [List.findIdx?_cons]
    simp [this]
theorem sh_tgt {rs : List (List D)} {ts : List D} {w : Nat} (h1 : 1 ≤ rs.length) (hw : ∀ x, x ∈ rs → x.length = w) (ht : ts.length ≠ rs.length) : shapeErr rs ts = some rs.length := by
  match rs, h1 with
  | r0 :: rs, _ =>
    unfold shapeErr
    simp only
    have : (r0 :: rs).findIdx? (fun r => !decide (r.length = r0.length)) = none := by
      rw [List.findIdx?_eq_none_iff]
      intro x hx
      simp [hw x hx, hw r0 List.mem_cons_self]
    rw [this]
    simp only
    rw [if_neg ht]
theorem cut_pre {l : List D} {z : Int} (h0 : 0 ≤ z) (h1 : z ≤ l.length) : DL.cutD l none (some z) = l.take z.toNat := by
  obtain ⟨n, rfl⟩ : ∃ n : Nat, z = n := ⟨z.toNat, by omega⟩
  unfold DL.cutD
  rw [HT.sIx_nat]
  have : HT.sIx l.length 0 none = 0 := rfl
  rw [this, List.drop_zero, Nat.sub_zero, Int.toNat_natCast, Nat.min_eq_left (by omega)]
theorem cut_post {l : List D} {z : Int} (h0 : 0 ≤ z) (h1 : z ≤ l.length) : DL.cutD l (some z) none = l.drop z.toNat := by
  obtain ⟨n, rfl⟩ : ∃ n : Nat, z = n := ⟨z.toNat, by omega⟩
  unfold DL.cutD
  rw [HT.sIx_nat]
  have : HT.sIx l.length l.length none = l.length := rfl
  rw [this, Int.toNat_natCast, Nat.min_eq_left (by omega)]
  exact List.take_of_length_le (by rw [List.length_drop]; exact Nat.le_refl _)
theorem lamE_get {e : En} {i : Nat} {d : D} (h : e[i]? = some (.sh d)) : (lamE e)[i]? = some (.sh d) := by
  unfold lamE
  rw [List.getElem?_map, h]
  rfl
theorem law_true : ∀ g : Rng, g.Ok → ∃ g', b_law (envL 9) g = .ok (.rt (.bl true) g') := by
  intro g hg
  have key : WV (b_law (envL 9) g) (rtI fun d _ => d = .bl true) := by
    unfold b_law
    show WV (sSeq _ _ [.un, .rng, .un, .un, .un, .un, .un, .un, .un] g) _
    rw [sSeq_, WV_bindO, sFor_]
    simp only [iRange_, aCons_, eC_, bind_ok, aNil_, iRK_1]
    rw [if_pos (by decide), bind_ok]
    refine WV_for (fun e g => g.Ok ∧ ∃ a b c d f s7 s8, e = [.un, .rng, a, b, c, d, f, s7, s8]) ⟨hg, _, _, _, _, _, _, _, rfl⟩ ?_ ?_
    · rintro dd hdd e g ⟨hg, s2, s3, s4, s5, s6, s7, s8, rfl⟩
      refine ⟨_, rfl, ?_⟩
      simp only [List.set_cons_zero, List.set_cons_succ]
      rw [sSeq_, WV_bindO]
      refine WV.mono (Q := fun o => ∃ (M : List (List Rat)) (ts : List Rat) (g' : Rng), o = .nx [.un, .rng, .sh dd, .sh (matD M), .sh (vecD ts), s5, s6, s7, s8] g' ∧ g'.Ok ∧ Lin M ts) ?_ ?_
      · simp
        refine lin_then hg fun M ts g' h1 hL => ?_
        simp
        exact ⟨M, ts, g', ⟨⟨rfl, rfl⟩, rfl⟩, h1, hL⟩
      rintro o ⟨M, ts, g1, rfl, h1, hL⟩
      obtain ⟨w, w1, w5, hw⟩ := hL.w
      have m1 := hL.m1
      have m5 := hL.m5
      -- where and what
      rw [seqK_nx, sSeq_, WV_bindO]
      refine WV.mono (Q := fun o => ∃ (p q : Int) (g' : Rng), o = .nx [.un, .rng, .sh dd, .sh (matD M), .sh (vecD ts), .sh (.int p), .sh (.int q), .sh (.tup [.str "", .non]), s8] g' ∧ g'.Ok ∧ 0 ≤ p ∧ p < M.length ∧ 0 ≤ q ∧ q < 3) ?_ ?_
      · simp [matD, sPar3]
        refine draw_then h1 (by omega) (by omega) fun z g2 h2 z0 z1 => ?_
        refine draw_then h2 (by decide) (by decide) fun y g3 h3 y0 y1 => ?_
        simp
        exact ⟨z, y, g3, ⟨⟨rfl, rfl⟩, rfl⟩, h3, z0, z1, y0, y1⟩
      rintro o ⟨p, q, g2, rfl, h2, p0, p1, q0, q1⟩
      let rs : List (List D) := M.map fun r => r.map frD
      have rsD : matD M = .lst (rs.map D.lst) := by unfold matD; rw [List.map_map]; rfl
      have rl : rs.length = M.length := List.length_map _
      have rw' : ∀ x, x ∈ rs → x.length = w := fun x hx => by
        obtain ⟨r, hr, rfl⟩ := List.mem_map.mp hx
        rw [List.length_map]; exact hw r hr
      rw [rsD]
      clear_value rs
      -- the targets
      rw [seqK_nx, sSeq_, WV_bindO]
      refine WV.mono (Q := fun o => ∃ (us : List D) (x : D) (g' : Rng), o = .nx [.un, .rng, .sh dd, .sh (.lst (rs.map D.lst)), .sh (.lst us), .sh (.int p), .sh (.int q), .sh x, s8] g' ∧ g'.Ok ∧ ((q = 0 ∧ x = .tup [.str "", .non]) ∨ (0 < q ∧ us.length ≠ rs.length ∧ x = .tup [.str "InvalidShape", .int (rs.length : Nat)]))) ?_ ?_
      · by_cases c : 0 < q
        · have tl := hL.t
          simp [c, vecD, dSl]
          rw [dAdd_ll (by simp; omega), WV_ok]
          refine choice_then h2 (by simp) (by simp) fun x g3 h3 hx => ?_
          simp only [List.mem_cons, List.not_mem_nil, or_false] at hx
          rcases hx with rfl | rfl
          · refine ⟨_, _, g3, ⟨⟨rfl, rfl⟩, rfl⟩, h3, .inr ⟨?_, rfl⟩⟩
            rw [cut_post (by decide) (by rw [List.length_map]; omega), List.length_drop, List.length_map]
            simp; omega
          · refine ⟨_, _, g3, ⟨⟨rfl, rfl⟩, rfl⟩, h3, .inr ⟨?_, rfl⟩⟩
            simp; omega
        · simp [c, vecD]
          exact ⟨_, _, g2, ⟨⟨rfl, rfl⟩, rfl⟩, h2, by omega, rfl⟩
      rintro o ⟨us, x, g3, rfl, h3, hx⟩
      -- the rows
      rw [seqK_nx, sSeq_, WV_bindO]
      refine WV.mono (Q := fun o => ∃ (rs' : List (List D)) (x : D) (g' : Rng), o = .nx [.un, .rng, .sh dd, .sh (.lst (rs'.map D.lst)), .sh (.lst us), .sh (.int p), .sh (.int q), .sh x, s8] g' ∧ g'.Ok ∧ (x = .tup [.str "", .non] ∨ ∃ i : Nat, shapeErr rs' us = some i ∧ x = .tup [.str "InvalidShape", .int i])) ?_ ?_
      · by_cases c : q < 2 ∧ 0 < p
        · obtain ⟨c1, c2⟩ := c
          have hp : p.toNat < rs.length := by omega
          have at_ : atI (rs.map D.lst) p = some (.lst (rs[p.toNat])) := by
            unfold atI
            rw [List.length_map, ixNI p0 (by omega)]
            show (rs.map D.lst)[p.toNat]? = _
            rw [List.getElem?_map, List.getElem?_eq_getElem hp]
            rfl
          have len_ := rw' _ (List.getElem_mem hp)
          simp [c1, c2, dSl, at_]
          rw [dAdd_ll (by rw [len_]; simp; omega), WV_ok]
          have w0 : w ≠ 0 := by omega
          have fin : ∀ (r' : List D) (g4 : Rng), g4.Ok → r'.length ≠ w → WV (dAdd (D.lst (DL.cutD (List.map D.lst rs) none (some p))) (D.lst [.lst r'])) fun a =>
              WV (dAdd a (D.lst (DL.cutD (List.map D.lst rs) (some (p + 1)) none))) fun a =>
                ∃ rs' x g', ((a = D.lst (List.map D.lst rs') ∧ D.tup [D.str "InvalidShape", D.int p] = x) ∧ g4 = g') ∧ g'.Ok ∧ (x = D.tup [D.str "", D.non] ∨ ∃ i : Nat, shapeErr rs' us = some i ∧ x = D.tup [D.str "InvalidShape", D.int i]) := fun r' g4 h4 hr' => by
            have c1 : DL.cutD (rs.map D.lst) none (some p) = (rs.map D.lst).take p.toNat := cut_pre p0 (by rw [List.length_map]; omega)
            have c2 : DL.cutD (rs.map D.lst) (some (p + 1)) none = (rs.map D.lst).drop (p.toNat + 1) := by
              have := cut_post (l := rs.map D.lst) (z := p + 1) (by omega) (by rw [List.length_map]; omega)
              rw [this, show (p + 1).toNat = p.toNat + 1 by omega]
            rw [c1, c2, dAdd_ll (by simp; omega), WV_ok, dAdd_ll (by simp; omega), WV_ok]
            refine ⟨rs.set p.toNat r', _, g4, ⟨⟨?_, rfl⟩, rfl⟩, h4, .inr ⟨p.toNat, sh_row (by omega) hp rw' hr', ?_⟩⟩
            · congr 1
              rw [List.map_set, List.set_eq_take_append_cons_drop, if_pos (by rw [List.length_map]; exact hp)]
              simp
            · rw [Int.toNat_of_nonneg p0]
          refine choice_then h3 (by simp) (by simp) fun y g4 h4 hy => ?_
          simp only [List.mem_cons, List.not_mem_nil, or_false] at hy
          rcases hy with rfl | rfl
          · refine fin _ g4 h4 ?_
            rw [cut_post (by decide) (by omega), List.length_drop, len_]
            simp; omega
          · refine fin _ g4 h4 ?_
            simp [len_]
        · have : ∀ (s5 s7 : Slot) (g : Rng), (tAndM (eTest (eOp dLtI (eVar 6) (eC (.int 2)))) (eTest (eOp dGt (eVar 5) (eC (.int 0))))) [.un, .rng, .sh dd, .sh (.lst (rs.map D.lst)), .sh (.lst us), .sh (.int p), .sh (.int q), s7, s8] g = .ok (false, g) := fun _ s7 g => by
            by_cases c1 : q < 2
            · have c2 : ¬ 0 < p := fun z => c ⟨c1, z⟩
              simp [c1, c2]
            · simp [c1]
          rw [sIf_, this .un, bind_ok]
          simp only [Bool.false_eq_true, if_false, sNx_, WV_ok]
          refine ⟨rs, x, g3, rfl, h3, ?_⟩
          rcases hx with ⟨_, rfl⟩ | ⟨_, h, rfl⟩
          · exact .inl rfl
          · exact .inr ⟨rs.length, sh_tgt (by omega) rw' h, rfl⟩
      rintro o ⟨rs', x, g4, rfl, h4, hx⟩
      rw [seqK_nx, sSeq_, WV_bindO]
      rcases hx with rfl | ⟨i, hi, rfl⟩
      · refine WV.mono (Q := fun o => o = .ct [.un, .rng, .sh dd, .sh (.lst (rs'.map D.lst)), .sh (.lst us), .sh (.int p), .sh (.int q), .sh (.tup [.str "", .non]), s8] g4) ?_ ?_
        · have := dEq_lit (a := "") (b := "") (c := true) (by decide +kernel)
          simp [atI, ixN, this]
        rintro o rfl
        rw [seqK_ct, WV_ok]
        exact ⟨h4, _, _, _, _, _, _, _, rfl⟩
      · have e0 := dEq_lit (a := "InvalidShape") (b := "") (c := false) (by decide +kernel)
        have q1 := equal_refl 12 (.lst [.tup [.str "InvalidShape", .int i], .tup [.str "InvalidShape", .int i]]) (by simp [eqOk]; decide +kernel)
        refine WV.mono (Q := fun o => o = .nx [.un, .rng, .sh dd, .sh (.lst (rs'.map D.lst)), .sh (.lst us), .sh (.int p), .sh (.int q), .sh (.tup [.str "InvalidShape", .int i]), s8] g4) ?_ ?_
        · simp [atI, ixN, e0]
        rintro o rfl
        have e1 : ∀ (e : En) (g : Rng), e[3]? = some (.sh (.lst (rs'.map D.lst))) → e[4]? = some (.sh (.lst us)) → eErr (eCall m_solve_linear (aCons (eVar 3) (aCons (eVar 4) aNil))) (ocD sel1 sel2 m__law_error_field) e g = .ok (.tup [.str "InvalidShape", .int i], g) := fun e g h3 h4 => err_ok (x := xShape i) (by
          rw [eCall_]
          simp [lamE_get h3, lamE_get h4, solve_err hi]) (ocD_shape _)
        have e2 : ∀ (e : En) (g : Rng), e[3]? = some (.sh (.lst (rs'.map D.lst))) → e[4]? = some (.sh (.lst us)) → eErr (eCall m_check_solution (aCons (eVar 3) (aCons (eVar 4) (aCons (eTup (aCons (eC (.str "solution")) (aCons (eOfL (aLst aNil)) aNil))) aNil)))) (ocD sel1 sel2 m__law_error_field) e g = .ok (.tup [.str "InvalidShape", .int i], g) := fun e g h3 h4 => err_ok (x := xShape i) (by
          rw [eCall_]
          simp [lamE_get h3, lamE_get h4, checks_err hi]) (ocD_shape _)
        rw [seqK_nx, sSeq_, WV_bindO]
        refine WV.mono (Q := fun o => o = .nx [.un, .rng, .sh dd, .sh (.lst (rs'.map D.lst)), .sh (.lst us), .sh (.int p), .sh (.int q), .sh (.tup [.str "InvalidShape", .int i]), .sh (.lst [.tup [.str "InvalidShape", .int i], .tup [.str "InvalidShape", .int i]])] g4) ?_ ?_
        · simp [e1, e2]
        rintro o rfl
        rw [seqK_nx]
        simp [q1]
        exact h4
    · rintro e g ⟨hg, s2, s3, s4, s5, s6, s7, s8, rfl⟩
      simp
  obtain ⟨o, ho, hq⟩ := key.get
  cases o with
  | rt d g' => exact ⟨g', by rw [ho, show d = .bl true from hq]⟩
  | nx e g' => exact hq.elim
  | bk e g' => exact hq.elim
  | ct e g' => exact hq.elim


structure Txt (K : PySem.W.Frag) (mg : Str → Option Value) (cm : Str → Option Addr) (tb : List (Addr × Str)) : Prop where
  g_gcd : mg "gcd" = some (.ref (He.ga K "gcd"))
  k_gcd : PySem.W.keepIn K (.ref (He.ga K "gcd")) = true
  F_gcd : ∃ fd, FunD K "gcd" "gcd" (defArgs s_gcd) (defBody s_gcd) (defScope s_gcd) (d_gcd.dvs K) (d_gcd.kws K) (He.ga K "gcd") fd
  g_fraction : mg "fraction" = some (.ref (He.ga K "fraction"))
  k_fraction : PySem.W.keepIn K (.ref (He.ga K "fraction")) = true
  F_fraction : ∃ fd, FunD K "fraction" "fraction" (defArgs s_fraction) (defBody s_fraction) (defScope s_fraction) (d_fraction.dvs K) (d_fraction.kws K) (He.ga K "fraction") fd
  g_add : mg "add" = some (.ref (He.ga K "add"))
  k_add : PySem.W.keepIn K (.ref (He.ga K "add")) = true
  F_add : ∃ fd, FunD K "add" "add" (defArgs s_add) (defBody s_add) (defScope s_add) (d_add.dvs K) (d_add.kws K) (He.ga K "add") fd
  g_subtract : mg "subtract" = some (.ref (He.ga K "subtract"))
  k_subtract : PySem.W.keepIn K (.ref (He.ga K "subtract")) = true
  F_subtract : ∃ fd, FunD K "subtract" "subtract" (defArgs s_subtract) (defBody s_subtract) (defScope s_subtract) (d_subtract.dvs K) (d_subtract.kws K) (He.ga K "subtract") fd
  g_multiply : mg "multiply" = some (.ref (He.ga K "multiply"))
  k_multiply : PySem.W.keepIn K (.ref (He.ga K "multiply")) = true
  F_multiply : ∃ fd, FunD K "multiply" "multiply" (defArgs s_multiply) (defBody s_multiply) (defScope s_multiply) (d_multiply.dvs K) (d_multiply.kws K) (He.ga K "multiply") fd
  g_divide : mg "divide" = some (.ref (He.ga K "divide"))
  k_divide : PySem.W.keepIn K (.ref (He.ga K "divide")) = true
  F_divide : ∃ fd, FunD K "divide" "divide" (defArgs s_divide) (defBody s_divide) (defScope s_divide) (d_divide.dvs K) (d_divide.kws K) (He.ga K "divide") fd
  g_total : mg "total" = some (.ref (He.ga K "total"))
  k_total : PySem.W.keepIn K (.ref (He.ga K "total")) = true
  F_total : ∃ fd, FunD K "total" "total" (defArgs s_total) (defBody s_total) (defScope s_total) (d_total.dvs K) (d_total.kws K) (He.ga K "total") fd
  g_check_shape : mg "check_shape" = some (.ref (He.ga K "check_shape"))
  k_check_shape : PySem.W.keepIn K (.ref (He.ga K "check_shape")) = true
  F_check_shape : ∃ fd, FunD K "check_shape" "check_shape" (defArgs s_check_shape) (defBody s_check_shape) (defScope s_check_shape) (d_check_shape.dvs K) (d_check_shape.kws K) (He.ga K "check_shape") fd
  g_subtract_multiple : mg "subtract_multiple" = some (.ref (He.ga K "subtract_multiple"))
  k_subtract_multiple : PySem.W.keepIn K (.ref (He.ga K "subtract_multiple")) = true
  F_subtract_multiple : ∃ fd, FunD K "subtract_multiple" "subtract_multiple" (defArgs s_subtract_multiple) (defBody s_subtract_multiple) (defScope s_subtract_multiple) (d_subtract_multiple.dvs K) (d_subtract_multiple.kws K) (He.ga K "subtract_multiple") fd
  g_scaled : mg "scaled" = some (.ref (He.ga K "scaled"))
  k_scaled : PySem.W.keepIn K (.ref (He.ga K "scaled")) = true
  F_scaled : ∃ fd, FunD K "scaled" "scaled" (defArgs s_scaled) (defBody s_scaled) (defScope s_scaled) (d_scaled.dvs K) (d_scaled.kws K) (He.ga K "scaled") fd
  g_pivot : mg "pivot" = some (.ref (He.ga K "pivot"))
  k_pivot : PySem.W.keepIn K (.ref (He.ga K "pivot")) = true
  F_pivot : ∃ fd, FunD K "pivot" "pivot" (defArgs s_pivot) (defBody s_pivot) (defScope s_pivot) (d_pivot.dvs K) (d_pivot.kws K) (He.ga K "pivot") fd
  g_unit_row : mg "unit_row" = some (.ref (He.ga K "unit_row"))
  k_unit_row : PySem.W.keepIn K (.ref (He.ga K "unit_row")) = true
  F_unit_row : ∃ fd, FunD K "unit_row" "unit_row" (defArgs s_unit_row) (defBody s_unit_row) (defScope s_unit_row) (d_unit_row.dvs K) (d_unit_row.kws K) (He.ga K "unit_row") fd
  g_solve_linear : mg "solve_linear" = some (.ref (He.ga K "solve_linear"))
  k_solve_linear : PySem.W.keepIn K (.ref (He.ga K "solve_linear")) = true
  F_solve_linear : ∃ fd, FunD K "solve_linear" "solve_linear" (defArgs s_solve_linear) (defBody s_solve_linear) (defScope s_solve_linear) (d_solve_linear.dvs K) (d_solve_linear.kws K) (He.ga K "solve_linear") fd
  g_check_solution : mg "check_solution" = some (.ref (He.ga K "check_solution"))
  k_check_solution : PySem.W.keepIn K (.ref (He.ga K "check_solution")) = true
  F_check_solution : ∃ fd, FunD K "check_solution" "check_solution" (defArgs s_check_solution) (defBody s_check_solution) (defScope s_check_solution) (d_check_solution.dvs K) (d_check_solution.kws K) (He.ga K "check_solution") fd
  g__law_source : mg "_law_source" = some (.ref (He.ga K "_law_source"))
  k__law_source : PySem.W.keepIn K (.ref (He.ga K "_law_source")) = true
  F__law_source : ∃ fd, FunD K "_law_source" "_law_source" (defArgs s__law_source) (defBody s__law_source) (defScope s__law_source) (d__law_source.dvs K) (d__law_source.kws K) (He.ga K "_law_source") fd
  g__law_draw : mg "_law_draw" = some (.ref (He.ga K "_law_draw"))
  k__law_draw : PySem.W.keepIn K (.ref (He.ga K "_law_draw")) = true
  F__law_draw : ∃ fd, FunD K "_law_draw" "_law_draw" (defArgs s__law_draw) (defBody s__law_draw) (defScope s__law_draw) (d__law_draw.dvs K) (d__law_draw.kws K) (He.ga K "_law_draw") fd
  g__law_choice : mg "_law_choice" = some (.ref (He.ga K "_law_choice"))
  k__law_choice : PySem.W.keepIn K (.ref (He.ga K "_law_choice")) = true
  F__law_choice : ∃ fd, FunD K "_law_choice" "_law_choice" (defArgs s__law_choice) (defBody s__law_choice) (defScope s__law_choice) (d__law_choice.dvs K) (d__law_choice.kws K) (He.ga K "_law_choice") fd
  g__law_equal : mg "_law_equal" = some (.ref (He.ga K "_law_equal"))
  k__law_equal : PySem.W.keepIn K (.ref (He.ga K "_law_equal")) = true
  F__law_equal : ∃ fd, FunD K "_law_equal" "_law_equal" (defArgs s__law_equal) (defBody s__law_equal) (defScope s__law_equal) (d__law_equal.dvs K) (d__law_equal.kws K) (He.ga K "_law_equal") fd
  g__law_error_field : mg "_law_error_field" = some (.ref (He.ga K "_law_error_field"))
  k__law_error_field : PySem.W.keepIn K (.ref (He.ga K "_law_error_field")) = true
  F__law_error_field : ∃ fd, FunD K "_law_error_field" "_law_error_field" (defArgs s__law_error_field) (defBody s__law_error_field) (defScope s__law_error_field) (d__law_error_field.dvs K) (d__law_error_field.kws K) (He.ga K "_law_error_field") fd
  g__law_outcome : mg "_law_outcome" = some (.ref (He.ga K "_law_outcome"))
  k__law_outcome : PySem.W.keepIn K (.ref (He.ga K "_law_outcome")) = true
  F__law_outcome : ∃ fd, FunD K "_law_outcome" "_law_outcome" (defArgs s__law_outcome) (defBody s__law_outcome) (defScope s__law_outcome) (d__law_outcome.dvs K) (d__law_outcome.kws K) (He.ga K "_law_outcome") fd
  g__law_error : mg "_law_error" = some (.ref (He.ga K "_law_error"))
  k__law_error : PySem.W.keepIn K (.ref (He.ga K "_law_error")) = true
  F__law_error : ∃ fd, FunD K "_law_error" "_law_error" (defArgs s__law_error) (defBody s__law_error) (defScope s__law_error) (d__law_error.dvs K) (d__law_error.kws K) (He.ga K "_law_error") fd
  g__law_reduce : mg "_law_reduce" = some (.ref (He.ga K "_law_reduce"))
  k__law_reduce : PySem.W.keepIn K (.ref (He.ga K "_law_reduce")) = true
  F__law_reduce : ∃ fd, FunD K "_law_reduce" "_law_reduce" (defArgs s__law_reduce) (defBody s__law_reduce) (defScope s__law_reduce) (d__law_reduce.dvs K) (d__law_reduce.kws K) (He.ga K "_law_reduce") fd
  g__law_add : mg "_law_add" = some (.ref (He.ga K "_law_add"))
  k__law_add : PySem.W.keepIn K (.ref (He.ga K "_law_add")) = true
  F__law_add : ∃ fd, FunD K "_law_add" "_law_add" (defArgs s__law_add) (defBody s__law_add) (defScope s__law_add) (d__law_add.dvs K) (d__law_add.kws K) (He.ga K "_law_add") fd
  g__law_multiply : mg "_law_multiply" = some (.ref (He.ga K "_law_multiply"))
  k__law_multiply : PySem.W.keepIn K (.ref (He.ga K "_law_multiply")) = true
  F__law_multiply : ∃ fd, FunD K "_law_multiply" "_law_multiply" (defArgs s__law_multiply) (defBody s__law_multiply) (defScope s__law_multiply) (d__law_multiply.dvs K) (d__law_multiply.kws K) (He.ga K "_law_multiply") fd
  g__law_sum : mg "_law_sum" = some (.ref (He.ga K "_law_sum"))
  k__law_sum : PySem.W.keepIn K (.ref (He.ga K "_law_sum")) = true
  F__law_sum : ∃ fd, FunD K "_law_sum" "_law_sum" (defArgs s__law_sum) (defBody s__law_sum) (defScope s__law_sum) (d__law_sum.dvs K) (d__law_sum.kws K) (He.ga K "_law_sum") fd
  g__law_small : mg "_law_small" = some (.ref (He.ga K "_law_small"))
  k__law_small : PySem.W.keepIn K (.ref (He.ga K "_law_small")) = true
  F__law_small : ∃ fd, FunD K "_law_small" "_law_small" (defArgs s__law_small) (defBody s__law_small) (defScope s__law_small) (d__law_small.dvs K) (d__law_small.kws K) (He.ga K "_law_small") fd
  g__law_linear_case : mg "_law_linear_case" = some (.ref (He.ga K "_law_linear_case"))
  k__law_linear_case : PySem.W.keepIn K (.ref (He.ga K "_law_linear_case")) = true
  F__law_linear_case : ∃ fd, FunD K "_law_linear_case" "_law_linear_case" (defArgs s__law_linear_case) (defBody s__law_linear_case) (defScope s__law_linear_case) (d__law_linear_case.dvs K) (d__law_linear_case.kws K) (He.ga K "_law_linear_case") fd
  g_law : mg "law" = some (.ref (He.ga K "law"))
  k_law : PySem.W.keepIn K (.ref (He.ga K "law")) = true
  F_law : ∃ fd, FunD K "law" "law" (defArgs s_law) (defBody s_law) (defScope s_law) (d_law.dvs K) (d_law.kws K) (He.ga K "law") fd
  n_abs : mg "abs" = none
  n_all : mg "all" = none
  n_bool : mg "bool" = none
  n_enumerate : mg "enumerate" = none
  n_int : mg "int" = none
  n_isinstance : mg "isinstance" = none
  n_len : mg "len" = none
  n_list : mg "list" = none
  n_range : mg "range" = none
  n_str : mg "str" = none
  n_tuple : mg "tuple" = none
  n_zip : mg "zip" = none
  g_ZERO : mg "ZERO" = some (.ref (He.ga K "ZERO"))
  r_ZERO : ∀ H A, Rep ⟨K, cm, tb⟩ H A k_ZERO (.ref (He.ga K "ZERO"))
  g_ONE : mg "ONE" = some (.ref (He.ga K "ONE"))
  r_ONE : ∀ H A, Rep ⟨K, cm, tb⟩ H A k_ONE (.ref (He.ga K "ONE"))
  x_InvalidShape : XcI K (He.ga K "InvalidShape") .ve (He.ma K (He.ga K "InvalidShape") "__init__")
  m_InvalidShape : cm "InvalidShape" = some (He.ga K "InvalidShape")
  t_InvalidShape : PySem.W.takerIn K (He.ga K "InvalidShape") "pos" = some none
  f_InvalidShape : PySem.W.findIn K (.ref (He.ga K "InvalidShape")) "pos" = some none
  i_InvalidShape : ∃ fd, FunD K "__init__" "InvalidShape.__init__" (defArgs e_InvalidShape) (defBody e_InvalidShape) (defScope e_InvalidShape) (d_InvalidShape.dvs K) (d_InvalidShape.kws K) (He.ma K (He.ga K "InvalidShape") "__init__") fd
  g_EmptyHistory : mg "EmptyHistory" = some (.ref (He.ga K "EmptyHistory"))
  g_GaitError : mg "GaitError" = some (.ref (He.ga K "GaitError"))
  g_InvalidShape : mg "InvalidShape" = some (.ref (He.ga K "InvalidShape"))
  g_NotFound : mg "NotFound" = some (.ref (He.ga K "NotFound"))
  g_ZeroDenominator : mg "ZeroDenominator" = some (.ref (He.ga K "ZeroDenominator"))
  o_1 : ∀ c Ca, cm c = some Ca → PySem.W.exmAny K (.ref Ca) [.ref (He.ga K "GaitError"), .ref (He.ga K "NotFound")] = some (sel1 c)
  o_2 : ∀ c Ca, cm c = some Ca → PySem.W.exmAny K (.ref Ca) [.ref (He.ga K "ZeroDenominator"), .ref (He.ga K "EmptyHistory")] = some (sel2 c)
section
variable {P : Program} {w : World} {K : PySem.W.Frag} {mg : Str → Option Value} {base : Heap} {cm : Str → Option Addr} {tb : List (Addr × Str)}
theorem bd_gcd {kws : List (Str × V)} {f : Addr} (fd : FuncData) (F : FunD K "gcd" "gcd" (defArgs s_gcd) (defBody s_gcd) (defScope s_gcd) [] kws f fd) : L2.Binds K fd ["one", "other"] [] := F.bindsN fun _ _ _ _ _ _ us hl => match us, hl with | [_, _], _ => rfl
theorem bd_add {kws : List (Str × V)} {f : Addr} (fd : FuncData) (F : FunD K "add" "add" (defArgs s_add) (defBody s_add) (defScope s_add) [] kws f fd) : L2.Binds K fd ["one", "other"] [] := F.bindsN fun _ _ _ _ _ _ us hl => match us, hl with | [_, _], _ => rfl
theorem bd_subtract {kws : List (Str × V)} {f : Addr} (fd : FuncData) (F : FunD K "subtract" "subtract" (defArgs s_subtract) (defBody s_subtract) (defScope s_subtract) [] kws f fd) : L2.Binds K fd ["one", "other"] [] := F.bindsN fun _ _ _ _ _ _ us hl => match us, hl with | [_, _], _ => rfl
theorem bd_multiply {kws : List (Str × V)} {f : Addr} (fd : FuncData) (F : FunD K "multiply" "multiply" (defArgs s_multiply) (defBody s_multiply) (defScope s_multiply) [] kws f fd) : L2.Binds K fd ["one", "other"] [] := F.bindsN fun _ _ _ _ _ _ us hl => match us, hl with | [_, _], _ => rfl
theorem bd_divide {kws : List (Str × V)} {f : Addr} (fd : FuncData) (F : FunD K "divide" "divide" (defArgs s_divide) (defBody s_divide) (defScope s_divide) [] kws f fd) : L2.Binds K fd ["one", "other"] [] := F.bindsN fun _ _ _ _ _ _ us hl => match us, hl with | [_, _], _ => rfl
theorem bd_check_shape {kws : List (Str × V)} {f : Addr} (fd : FuncData) (F : FunD K "check_shape" "check_shape" (defArgs s_check_shape) (defBody s_check_shape) (defScope s_check_shape) [] kws f fd) : L2.Binds K fd ["rows", "targets"] [] := F.bindsN fun _ _ _ _ _ _ us hl => match us, hl with | [_, _], _ => rfl
theorem bd_subtract_multiple {kws : List (Str × V)} {f : Addr} (fd : FuncData) (F : FunD K "subtract_multiple" "subtract_multiple" (defArgs s_subtract_multiple) (defBody s_subtract_multiple) (defScope s_subtract_multiple) [] kws f fd) : L2.Binds K fd ["row", "other", "quantity"] [] := F.bindsN fun _ _ _ _ _ _ us hl => match us, hl with | [_, _, _], _ => rfl
theorem bd_scaled {kws : List (Str × V)} {f : Addr} (fd : FuncData) (F : FunD K "scaled" "scaled" (defArgs s_scaled) (defBody s_scaled) (defScope s_scaled) [] kws f fd) : L2.Binds K fd ["row", "quantity"] [] := F.bindsN fun _ _ _ _ _ _ us hl => match us, hl with | [_, _], _ => rfl
theorem bd_pivot {kws : List (Str × V)} {f : Addr} (fd : FuncData) (F : FunD K "pivot" "pivot" (defArgs s_pivot) (defBody s_pivot) (defScope s_pivot) [] kws f fd) : L2.Binds K fd ["lines", "pos", "spot"] [] := F.bindsN fun _ _ _ _ _ _ us hl => match us, hl with | [_, _, _], _ => rfl
theorem bd_unit_row {kws : List (Str × V)} {f : Addr} (fd : FuncData) (F : FunD K "unit_row" "unit_row" (defArgs s_unit_row) (defBody s_unit_row) (defScope s_unit_row) [] kws f fd) : L2.Binds K fd ["quantity", "pos"] [] := F.bindsN fun _ _ _ _ _ _ us hl => match us, hl with | [_, _], _ => rfl
theorem bd_solve_linear {kws : List (Str × V)} {f : Addr} (fd : FuncData) (F : FunD K "solve_linear" "solve_linear" (defArgs s_solve_linear) (defBody s_solve_linear) (defScope s_solve_linear) [] kws f fd) : L2.Binds K fd ["rows", "targets"] [] := F.bindsN fun _ _ _ _ _ _ us hl => match us, hl with | [_, _], _ => rfl
theorem bd_check_solution {kws : List (Str × V)} {f : Addr} (fd : FuncData) (F : FunD K "check_solution" "check_solution" (defArgs s_check_solution) (defBody s_check_solution) (defScope s_check_solution) [] kws f fd) : L2.Binds K fd ["rows", "targets", "answer"] [] := F.bindsN fun _ _ _ _ _ _ us hl => match us, hl with | [_, _, _], _ => rfl
theorem bd__law_source {kws : List (Str × V)} {f : Addr} (fd : FuncData) (F : FunD K "_law_source" "_law_source" (defArgs s__law_source) (defBody s__law_source) (defScope s__law_source) [] kws f fd) : L2.Binds K fd ["_law_script"] [] := F.bindsN fun _ _ _ _ _ _ us hl => match us, hl with | [_], _ => rfl
theorem bd__law_draw {kws : List (Str × V)} {f : Addr} (fd : FuncData) (F : FunD K "_law_draw" "_law_draw" (defArgs s__law_draw) (defBody s__law_draw) (defScope s__law_draw) [] kws f fd) : L2.Binds K fd ["_law_rng", "_law_quantity"] [] := F.bindsN fun _ _ _ _ _ _ us hl => match us, hl with | [_, _], _ => rfl
theorem bd__law_choice {kws : List (Str × V)} {f : Addr} (fd : FuncData) (F : FunD K "_law_choice" "_law_choice" (defArgs s__law_choice) (defBody s__law_choice) (defScope s__law_choice) [] kws f fd) : L2.Binds K fd ["_law_rng", "_law_some"] [] := F.bindsN fun _ _ _ _ _ _ us hl => match us, hl with | [_, _], _ => rfl
theorem bd__law_equal {kws : List (Str × V)} {f : Addr} (fd : FuncData) (F : FunD K "_law_equal" "_law_equal" (defArgs s__law_equal) (defBody s__law_equal) (defScope s__law_equal) [] kws f fd) : L2.Binds K fd ["_law_result", "_law_expected"] [] := F.bindsN fun _ _ _ _ _ _ us hl => match us, hl with | [_, _], _ => rfl
theorem bd__law_error_field {kws : List (Str × V)} {f : Addr} (fd : FuncData) (F : FunD K "_law_error_field" "_law_error_field" (defArgs s__law_error_field) (defBody s__law_error_field) (defScope s__law_error_field) [] kws f fd) : L2.Binds K fd ["_law_e"] [] := F.bindsN fun _ _ _ _ _ _ us hl => match us, hl with | [_], _ => rfl
theorem bd__law_outcome {kws : List (Str × V)} {f : Addr} (fd : FuncData) (F : FunD K "_law_outcome" "_law_outcome" (defArgs s__law_outcome) (defBody s__law_outcome) (defScope s__law_outcome) [] kws f fd) : L2.Binds K fd ["_law_ask"] [] := F.bindsN fun _ _ _ _ _ _ us hl => match us, hl with | [_], _ => rfl
theorem bd__law_error {kws : List (Str × V)} {f : Addr} (fd : FuncData) (F : FunD K "_law_error" "_law_error" (defArgs s__law_error) (defBody s__law_error) (defScope s__law_error) [] kws f fd) : L2.Binds K fd ["_law_ask"] [] := F.bindsN fun _ _ _ _ _ _ us hl => match us, hl with | [_], _ => rfl
theorem bd__law_reduce {kws : List (Str × V)} {f : Addr} (fd : FuncData) (F : FunD K "_law_reduce" "_law_reduce" (defArgs s__law_reduce) (defBody s__law_reduce) (defScope s__law_reduce) [] kws f fd) : L2.Binds K fd ["_law_num", "_law_den"] [] := F.bindsN fun _ _ _ _ _ _ us hl => match us, hl with | [_, _], _ => rfl
theorem bd__law_add {kws : List (Str × V)} {f : Addr} (fd : FuncData) (F : FunD K "_law_add" "_law_add" (defArgs s__law_add) (defBody s__law_add) (defScope s__law_add) [] kws f fd) : L2.Binds K fd ["_law_one", "_law_other"] [] := F.bindsN fun _ _ _ _ _ _ us hl => match us, hl with | [_, _], _ => rfl
theorem bd__law_multiply {kws : List (Str × V)} {f : Addr} (fd : FuncData) (F : FunD K "_law_multiply" "_law_multiply" (defArgs s__law_multiply) (defBody s__law_multiply) (defScope s__law_multiply) [] kws f fd) : L2.Binds K fd ["_law_one", "_law_other"] [] := F.bindsN fun _ _ _ _ _ _ us hl => match us, hl with | [_, _], _ => rfl
theorem bd__law_sum {kws : List (Str × V)} {f : Addr} (fd : FuncData) (F : FunD K "_law_sum" "_law_sum" (defArgs s__law_sum) (defBody s__law_sum) (defScope s__law_sum) [] kws f fd) : L2.Binds K fd ["_law_some"] [] := F.bindsN fun _ _ _ _ _ _ us hl => match us, hl with | [_], _ => rfl
theorem bd__law_small {kws : List (Str × V)} {f : Addr} (fd : FuncData) (F : FunD K "_law_small" "_law_small" (defArgs s__law_small) (defBody s__law_small) (defScope s__law_small) [] kws f fd) : L2.Binds K fd ["_law_rng"] [] := F.bindsN fun _ _ _ _ _ _ us hl => match us, hl with | [_], _ => rfl
theorem bd__law_linear_case {kws : List (Str × V)} {f : Addr} (fd : FuncData) (F : FunD K "_law_linear_case" "_law_linear_case" (defArgs s__law_linear_case) (defBody s__law_linear_case) (defScope s__law_linear_case) [] kws f fd) : L2.Binds K fd ["_law_rng"] [] := F.bindsN fun _ _ _ _ _ _ us hl => match us, hl with | [_], _ => rfl
theorem bd_law {kws : List (Str × V)} {f : Addr} (fd : FuncData) (F : FunD K "law" "law" (defArgs s_law) (defBody s_law) (defScope s_law) [] kws f fd) : L2.Binds K fd ["_law_script"] [] := F.bindsN fun _ _ _ _ _ _ us hl => match us, hl with | [_], _ => rfl
theorem sc_InvalidShape : FnScope ["self", "pos"] ["self", "pos"] (defScope e_InvalidShape) := ⟨rfl, rfl, rfl, by decide +kernel, rfl, by decide +kernel, by decide +kernel⟩
theorem bd_InvalidShape {kws : List (Str × V)} {f : Addr} (fd : FuncData) (F : FunD K "__init__" "InvalidShape.__init__" (defArgs e_InvalidShape) (defBody e_InvalidShape) (defScope e_InvalidShape) [] kws f fd) : L2.Binds K fd ["self", "pos"] [] := F.bindsN fun _ _ _ _ _ _ us hl => match us, hl with | [_, _], _ => rfl
theorem ok_InvalidShape (T : Txt K mg cm tb) : ∃ fd, FnOk P w K mg base (L2N.CX P w) 1 (He.ma K (He.ga K "InvalidShape") "__init__") fd ["self", "pos"] (spI1 (He.ga K "InvalidShape") "InvalidShape" "pos") ∧ L2.Binds K fd ["self", "pos"] [] := by
  obtain ⟨fd, F⟩ := T.i_InvalidShape
  exact ⟨fd, xini1 T.x_InvalidShape T.t_InvalidShape F sc_InvalidShape fun cdv A outer s H E => pss_cons (ps_xst (pv 0) pe_str) (pss_one (ps_xst (pv 0) (pv 1))), bd_InvalidShape fd F⟩
theorem kb_0 {f : Addr} {fd : FuncData} (F : FunD K "fraction" "fraction" (defArgs s_fraction) (defBody s_fraction) (defScope s_fraction) (d_fraction.dvs K) (d_fraction.kws K) f fd) : KBs K fd ["num", "den"] 2 [] (d_fraction.dvs K) [] [.p 0, .p 1] := kbn10 F (List.cons_ne_nil _ _) _ _ _ fun _ _ _ _ _ _ _ us ws its h1 h2 h3 => match us, ws, its, h1, h2, h3 with | [_, _], [], [_], _, _, _ => ⟨_, rfl, rfl⟩
theorem sc_gcd : FnScope ["one", "other"] ["one", "other"] (defScope s_gcd) := ⟨rfl, rfl, rfl, by decide +kernel, rfl, by decide +kernel, by decide +kernel⟩
theorem ok_gcd (T : Txt K mg cm tb) : CalD P w K mg base 1 "gcd" s_gcd (d_gcd.dvs K) (d_gcd.kws K) (He.ga K "gcd") ["one", "other"] (spD ⟨K, cm, tb⟩ m_gcd) := by
  obtain ⟨fd, F⟩ := T.F_gcd
  have sc := sc_gcd
  refine CalD.mk' (fn_spD F sc b_gcd (k := 0) (fun cdv A outer s H E A0 hr => ?_)) F
  have hu : (A.deeper (envOfC "gcd" (defScope s_gcd) s.heap.objs.size (He.ga K "gcd") cdv)).units + 65 < cLine := by
    have := hr.un
    omega
  have tk : L2N.Takes (cxOf (L2N.CX P w) P w K mg base ["one", "other"] "gcd" (defScope s_gcd) (He.ga K "gcd") cdv A outer s H E) (fun c dd _ H' => E c dd H') := L2N.takes_of rfl rfl rfl rfl
  have hp : PassesOwn (model P w) (A.deeper (envOfC "gcd" (defScope s_gcd) s.heap.objs.size (He.ga K "gcd") cdv)) (envOfC "gcd" (defScope s_gcd) s.heap.objs.size (He.ga K "gcd") cdv) (cxOf (L2N.CX P w) P w K mg base ["one", "other"] "gcd" (defScope s_gcd) (He.ga K "gcd") cdv A outer s H E).xe := passes_of rfl
  exact (dss_cons (ds_while (fun e => fuGcd e) (fun h1 h2 => ps_while hp h1 h2) (dNeT (dV 1) de_int hu) (dss_one (ds_par (fun h => ps_par (i := 0) (j := 1) rfl sc.nd rfl rfl (by decide) rfl rfl h (by rfl)) (da_cons (dV 1) (da_cons (dModE (dV 0) (dV 1)) da_nil)))))
    (dss_one (ds_ret [] (dV 0))))
theorem sc_fraction : FnScope ["num", "den", "low", "sign"] ["num", "den"] (defScope s_fraction) := ⟨rfl, rfl, rfl, by decide +kernel, rfl, by decide +kernel, by decide +kernel⟩
theorem ok_fraction (T : Txt K mg cm tb) (G_gcd : CalD P w K mg base 1 "gcd" s_gcd (d_gcd.dvs K) (d_gcd.kws K) (He.ga K "gcd") ["one", "other"] (spD ⟨K, cm, tb⟩ m_gcd)) : CalD P w K mg base 2 "fraction" s_fraction (d_fraction.dvs K) (d_fraction.kws K) (He.ga K "fraction") ["num", "den"] (spD ⟨K, cm, tb⟩ m_fraction) := by
  obtain ⟨fd, F⟩ := T.F_fraction
  have sc := sc_fraction
  refine CalD.mk' (fn_spD F sc b_fraction (k := 1) (fun cdv A outer s H E A0 hr => ?_)) F
  have hu : (A.deeper (envOfC "fraction" (defScope s_fraction) s.heap.objs.size (He.ga K "fraction") cdv)).units + 65 < cLine := by
    have := hr.un
    omega
  have tk : L2N.Takes (cxOf (L2N.CX P w) P w K mg base ["num", "den", "low", "sign"] "fraction" (defScope s_fraction) (He.ga K "fraction") cdv A outer s H E) (fun c dd _ H' => E c dd H') := L2N.takes_of rfl rfl rfl rfl
  have hp : PassesOwn (model P w) (A.deeper (envOfC "fraction" (defScope s_fraction) s.heap.objs.size (He.ga K "fraction") cdv)) (envOfC "fraction" (defScope s_fraction) s.heap.objs.size (He.ga K "fraction") cdv) (cxOf (L2N.CX P w) P w K mg base ["num", "den", "low", "sign"] "fraction" (defScope s_fraction) (He.ga K "fraction") cdv A outer s H E).xe := passes_of rfl
  exact (dss_cons (ds_if (dEqT (dV 1) de_int hu) (dss_one ds_bad) dss_nil)
    (dss_cons (ds_set (i := 2) (fun h => ps_set sc.nd rfl (by first | exact Or.inl rfl | exact Or.inr rfl) h) (dCallE (G_gcd.cal bd_gcd) (hr.mono (by decide)) tk T.g_gcd T.k_gcd (da_cons (dAbsE T.n_abs (da_cons (dV 0) da_nil)) (da_cons (dAbsE T.n_abs (da_cons (dV 1) da_nil)) da_nil))))
    (dss_cons (ds_set (i := 3) (fun h => ps_set sc.nd rfl (by first | exact Or.inl rfl | exact Or.inr rfl) h) (de_ifExp (dGtT (dV 1) de_int) de_int (dNegE de_int)))
    (dss_one (ds_ret [] (dTupE (da_cons (dFDivE (dMulE (dV 3) (dV 0)) (dV 2)) (da_cons (dFDivE (dMulE (dV 3) (dV 1)) (dV 2)) da_nil))))))))
theorem sc_add : FnScope ["one", "other"] ["one", "other"] (defScope s_add) := ⟨rfl, rfl, rfl, by decide +kernel, rfl, by decide +kernel, by decide +kernel⟩
theorem ok_add (T : Txt K mg cm tb) (G_fraction : CalD P w K mg base 2 "fraction" s_fraction (d_fraction.dvs K) (d_fraction.kws K) (He.ga K "fraction") ["num", "den"] (spD ⟨K, cm, tb⟩ m_fraction)) : CalD P w K mg base 3 "add" s_add (d_add.dvs K) (d_add.kws K) (He.ga K "add") ["one", "other"] (spD ⟨K, cm, tb⟩ m_add) := by
  obtain ⟨fd, F⟩ := T.F_add
  have sc := sc_add
  refine CalD.mk' (fn_spD F sc b_add (k := 2) (fun cdv A outer s H E A0 hr => ?_)) F
  have hu : (A.deeper (envOfC "add" (defScope s_add) s.heap.objs.size (He.ga K "add") cdv)).units + 65 < cLine := by
    have := hr.un
    omega
  have tk : L2N.Takes (cxOf (L2N.CX P w) P w K mg base ["one", "other"] "add" (defScope s_add) (He.ga K "add") cdv A outer s H E) (fun c dd _ H' => E c dd H') := L2N.takes_of rfl rfl rfl rfl
  have hp : PassesOwn (model P w) (A.deeper (envOfC "add" (defScope s_add) s.heap.objs.size (He.ga K "add") cdv)) (envOfC "add" (defScope s_add) s.heap.objs.size (He.ga K "add") cdv) (cxOf (L2N.CX P w) P w K mg base ["one", "other"] "add" (defScope s_add) (He.ga K "add") cdv A outer s H E).xe := passes_of rfl
  exact (dss_one (ds_ret [] (dCallN (n := 2) (ks := []) G_fraction (hr.mono (by decide)) tk T.g_fraction T.k_fraction (fun _ F => kb_0 F) (fun _ _ => .cons (.int_ _) (.nil)) (fun _ _ => .nil) (da_cons (dAddE (dMulE (dIxE (dV 0) de_int) (dIxE (dV 1) de_int)) (dMulE (dIxE (dV 1) de_int) (dIxE (dV 0) de_int))) (da_cons (dMulE (dIxE (dV 0) de_int) (dIxE (dV 1) de_int)) da_nil)) dk_nil)))
theorem sc_subtract : FnScope ["one", "other"] ["one", "other"] (defScope s_subtract) := ⟨rfl, rfl, rfl, by decide +kernel, rfl, by decide +kernel, by decide +kernel⟩
theorem ok_subtract (T : Txt K mg cm tb) (G_fraction : CalD P w K mg base 2 "fraction" s_fraction (d_fraction.dvs K) (d_fraction.kws K) (He.ga K "fraction") ["num", "den"] (spD ⟨K, cm, tb⟩ m_fraction)) : CalD P w K mg base 3 "subtract" s_subtract (d_subtract.dvs K) (d_subtract.kws K) (He.ga K "subtract") ["one", "other"] (spD ⟨K, cm, tb⟩ m_subtract) := by
  obtain ⟨fd, F⟩ := T.F_subtract
  have sc := sc_subtract
  refine CalD.mk' (fn_spD F sc b_subtract (k := 2) (fun cdv A outer s H E A0 hr => ?_)) F
  have hu : (A.deeper (envOfC "subtract" (defScope s_subtract) s.heap.objs.size (He.ga K "subtract") cdv)).units + 65 < cLine := by
    have := hr.un
    omega
  have tk : L2N.Takes (cxOf (L2N.CX P w) P w K mg base ["one", "other"] "subtract" (defScope s_subtract) (He.ga K "subtract") cdv A outer s H E) (fun c dd _ H' => E c dd H') := L2N.takes_of rfl rfl rfl rfl
  have hp : PassesOwn (model P w) (A.deeper (envOfC "subtract" (defScope s_subtract) s.heap.objs.size (He.ga K "subtract") cdv)) (envOfC "subtract" (defScope s_subtract) s.heap.objs.size (He.ga K "subtract") cdv) (cxOf (L2N.CX P w) P w K mg base ["one", "other"] "subtract" (defScope s_subtract) (He.ga K "subtract") cdv A outer s H E).xe := passes_of rfl
  exact (dss_one (ds_ret [] (dCallN (n := 2) (ks := []) G_fraction (hr.mono (by decide)) tk T.g_fraction T.k_fraction (fun _ F => kb_0 F) (fun _ _ => .cons (.int_ _) (.nil)) (fun _ _ => .nil) (da_cons (dSubE (dMulE (dIxE (dV 0) de_int) (dIxE (dV 1) de_int)) (dMulE (dIxE (dV 1) de_int) (dIxE (dV 0) de_int))) (da_cons (dMulE (dIxE (dV 0) de_int) (dIxE (dV 1) de_int)) da_nil)) dk_nil)))
theorem sc_multiply : FnScope ["one", "other"] ["one", "other"] (defScope s_multiply) := ⟨rfl, rfl, rfl, by decide +kernel, rfl, by decide +kernel, by decide +kernel⟩
theorem ok_multiply (T : Txt K mg cm tb) (G_fraction : CalD P w K mg base 2 "fraction" s_fraction (d_fraction.dvs K) (d_fraction.kws K) (He.ga K "fraction") ["num", "den"] (spD ⟨K, cm, tb⟩ m_fraction)) : CalD P w K mg base 3 "multiply" s_multiply (d_multiply.dvs K) (d_multiply.kws K) (He.ga K "multiply") ["one", "other"] (spD ⟨K, cm, tb⟩ m_multiply) := by
  obtain ⟨fd, F⟩ := T.F_multiply
  have sc := sc_multiply
  refine CalD.mk' (fn_spD F sc b_multiply (k := 2) (fun cdv A outer s H E A0 hr => ?_)) F
  have hu : (A.deeper (envOfC "multiply" (defScope s_multiply) s.heap.objs.size (He.ga K "multiply") cdv)).units + 65 < cLine := by
    have := hr.un
    omega
  have tk : L2N.Takes (cxOf (L2N.CX P w) P w K mg base ["one", "other"] "multiply" (defScope s_multiply) (He.ga K "multiply") cdv A outer s H E) (fun c dd _ H' => E c dd H') := L2N.takes_of rfl rfl rfl rfl
  have hp : PassesOwn (model P w) (A.deeper (envOfC "multiply" (defScope s_multiply) s.heap.objs.size (He.ga K "multiply") cdv)) (envOfC "multiply" (defScope s_multiply) s.heap.objs.size (He.ga K "multiply") cdv) (cxOf (L2N.CX P w) P w K mg base ["one", "other"] "multiply" (defScope s_multiply) (He.ga K "multiply") cdv A outer s H E).xe := passes_of rfl
  exact (dss_one (ds_ret [] (dCallN (n := 2) (ks := []) G_fraction (hr.mono (by decide)) tk T.g_fraction T.k_fraction (fun _ F => kb_0 F) (fun _ _ => .cons (.int_ _) (.nil)) (fun _ _ => .nil) (da_cons (dMulE (dIxE (dV 0) de_int) (dIxE (dV 1) de_int)) (da_cons (dMulE (dIxE (dV 0) de_int) (dIxE (dV 1) de_int)) da_nil)) dk_nil)))
theorem sc_divide : FnScope ["one", "other"] ["one", "other"] (defScope s_divide) := ⟨rfl, rfl, rfl, by decide +kernel, rfl, by decide +kernel, by decide +kernel⟩
theorem ok_divide (T : Txt K mg cm tb) (G_fraction : CalD P w K mg base 2 "fraction" s_fraction (d_fraction.dvs K) (d_fraction.kws K) (He.ga K "fraction") ["num", "den"] (spD ⟨K, cm, tb⟩ m_fraction)) : CalD P w K mg base 3 "divide" s_divide (d_divide.dvs K) (d_divide.kws K) (He.ga K "divide") ["one", "other"] (spD ⟨K, cm, tb⟩ m_divide) := by
  obtain ⟨fd, F⟩ := T.F_divide
  have sc := sc_divide
  refine CalD.mk' (fn_spD F sc b_divide (k := 2) (fun cdv A outer s H E A0 hr => ?_)) F
  have hu : (A.deeper (envOfC "divide" (defScope s_divide) s.heap.objs.size (He.ga K "divide") cdv)).units + 65 < cLine := by
    have := hr.un
    omega
  have tk : L2N.Takes (cxOf (L2N.CX P w) P w K mg base ["one", "other"] "divide" (defScope s_divide) (He.ga K "divide") cdv A outer s H E) (fun c dd _ H' => E c dd H') := L2N.takes_of rfl rfl rfl rfl
  have hp : PassesOwn (model P w) (A.deeper (envOfC "divide" (defScope s_divide) s.heap.objs.size (He.ga K "divide") cdv)) (envOfC "divide" (defScope s_divide) s.heap.objs.size (He.ga K "divide") cdv) (cxOf (L2N.CX P w) P w K mg base ["one", "other"] "divide" (defScope s_divide) (He.ga K "divide") cdv A outer s H E).xe := passes_of rfl
  exact (dss_one (ds_ret [] (dCallN (n := 2) (ks := []) G_fraction (hr.mono (by decide)) tk T.g_fraction T.k_fraction (fun _ F => kb_0 F) (fun _ _ => .cons (.int_ _) (.nil)) (fun _ _ => .nil) (da_cons (dMulE (dIxE (dV 0) de_int) (dIxE (dV 1) de_int)) (da_cons (dMulE (dIxE (dV 0) de_int) (dIxE (dV 1) de_int)) da_nil)) dk_nil)))
theorem sc_total : FnScope ["row", "start", "result", "one"] ["row", "start"] (defScope s_total) := ⟨rfl, rfl, rfl, by decide +kernel, rfl, by decide +kernel, by decide +kernel⟩
theorem ok_total (T : Txt K mg cm tb) (G_add : CalD P w K mg base 3 "add" s_add (d_add.dvs K) (d_add.kws K) (He.ga K "add") ["one", "other"] (spD ⟨K, cm, tb⟩ m_add)) : CalD P w K mg base 4 "total" s_total (d_total.dvs K) (d_total.kws K) (He.ga K "total") ["row", "start"] (spD ⟨K, cm, tb⟩ m_total) := by
  obtain ⟨fd, F⟩ := T.F_total
  have sc := sc_total
  refine CalD.mk' (fn_spD F sc b_total (k := 3) (fun cdv A outer s H E A0 hr => ?_)) F
  have hu : (A.deeper (envOfC "total" (defScope s_total) s.heap.objs.size (He.ga K "total") cdv)).units + 65 < cLine := by
    have := hr.un
    omega
  have tk : L2N.Takes (cxOf (L2N.CX P w) P w K mg base ["row", "start", "result", "one"] "total" (defScope s_total) (He.ga K "total") cdv A outer s H E) (fun c dd _ H' => E c dd H') := L2N.takes_of rfl rfl rfl rfl
  have hp : PassesOwn (model P w) (A.deeper (envOfC "total" (defScope s_total) s.heap.objs.size (He.ga K "total") cdv)) (envOfC "total" (defScope s_total) s.heap.objs.size (He.ga K "total") cdv) (cxOf (L2N.CX P w) P w K mg base ["row", "start", "result", "one"] "total" (defScope s_total) (He.ga K "total") cdv A outer s H E).xe := passes_of rfl
  exact (dss_cons (ds_set (i := 2) (fun h => ps_set sc.nd rfl (by first | exact Or.inl rfl | exact Or.inr rfl) h) (dV 1))
    (dss_cons (ds_for (fun h1 h2 h3 => ps_for hp rfl h1 h2 h3) (di_seq (dV 0)) (dNm 3 sc.nd) (dss_one (ds_set (i := 2) (fun h => ps_set sc.nd rfl (by first | exact Or.inl rfl | exact Or.inr rfl) h) (dCallE (G_add.cal bd_add) (hr.mono (by decide)) tk T.g_add T.k_add (da_cons (dV 2) (da_cons (dV 3) da_nil))))))
    (dss_one (ds_ret [] (dV 2)))))
theorem sc_check_shape : FnScope ["rows", "targets", "pos", "row"] ["rows", "targets"] (defScope s_check_shape) := ⟨rfl, rfl, rfl, by decide +kernel, rfl, by decide +kernel, by decide +kernel⟩
theorem ok_check_shape (T : Txt K mg cm tb) (G_InvalidShape : ∃ fd, FnOk P w K mg base (L2N.CX P w) 1 (He.ma K (He.ga K "InvalidShape") "__init__") fd ["self", "pos"] (spI1 (He.ga K "InvalidShape") "InvalidShape" "pos") ∧ L2.Binds K fd ["self", "pos"] []) : CalD P w K mg base 3 "check_shape" s_check_shape (d_check_shape.dvs K) (d_check_shape.kws K) (He.ga K "check_shape") ["rows", "targets"] (spD ⟨K, cm, tb⟩ m_check_shape) := by
  obtain ⟨fd, F⟩ := T.F_check_shape
  obtain ⟨fd_InvalidShape, F_InvalidShape, b_InvalidShape⟩ := G_InvalidShape
  have sc := sc_check_shape
  refine CalD.mk' (fn_spD F sc b_check_shape (k := 2) (fun cdv A outer s H E A0 hr => ?_)) F
  have hu : (A.deeper (envOfC "check_shape" (defScope s_check_shape) s.heap.objs.size (He.ga K "check_shape") cdv)).units + 65 < cLine := by
    have := hr.un
    omega
  have tk : L2N.Takes (cxOf (L2N.CX P w) P w K mg base ["rows", "targets", "pos", "row"] "check_shape" (defScope s_check_shape) (He.ga K "check_shape") cdv A outer s H E) (fun c dd _ H' => E c dd H') := L2N.takes_of rfl rfl rfl rfl
  have hp : PassesOwn (model P w) (A.deeper (envOfC "check_shape" (defScope s_check_shape) s.heap.objs.size (He.ga K "check_shape") cdv)) (envOfC "check_shape" (defScope s_check_shape) s.heap.objs.size (He.ga K "check_shape") cdv) (cxOf (L2N.CX P w) P w K mg base ["rows", "targets", "pos", "row"] "check_shape" (defScope s_check_shape) (He.ga K "check_shape") cdv A outer s H E).xe := passes_of rfl
  exact (dss_cons (ds_for (fun h1 h2 h3 => ps_for hp rfl h1 h2 h3) (di_enum (fun h => pi_enumA rfl T.n_enumerate h) (da_cons (dV 0) da_nil)) (dg_tup (fun h => pg_tup rfl h) (dgs_cons (dNm 2 sc.nd) (dgs_cons (dNm 3 sc.nd) dgs_nil))) (dss_one (ds_if (dNeT (dLenE T.n_len (da_cons (dV 3) da_nil)) (dLenE T.n_len (da_cons (dIxE (dV 0) de_int) da_nil)) hu) (dss_one (ds_raise1 T.x_InvalidShape F_InvalidShape (hr.mono (by decide)) b_InvalidShape T.g_InvalidShape T.m_InvalidShape T.f_InvalidShape tk (da_cons (dV 2) da_nil))) dss_nil)))
    (dss_one (ds_if (dNeT (dLenE T.n_len (da_cons (dV 1) da_nil)) (dLenE T.n_len (da_cons (dV 0) da_nil)) hu) (dss_one (ds_raise1 T.x_InvalidShape F_InvalidShape (hr.mono (by decide)) b_InvalidShape T.g_InvalidShape T.m_InvalidShape T.f_InvalidShape tk (da_cons (dLenE T.n_len (da_cons (dV 0) da_nil)) da_nil))) dss_nil)))
theorem sc_subtract_multiple : FnScope ["row", "other", "quantity", "one", "two"] ["row", "other", "quantity"] (defScope s_subtract_multiple) := ⟨rfl, rfl, rfl, by decide +kernel, rfl, by decide +kernel, by decide +kernel⟩
theorem ok_subtract_multiple (T : Txt K mg cm tb) (G_multiply : CalD P w K mg base 3 "multiply" s_multiply (d_multiply.dvs K) (d_multiply.kws K) (He.ga K "multiply") ["one", "other"] (spD ⟨K, cm, tb⟩ m_multiply)) (G_subtract : CalD P w K mg base 3 "subtract" s_subtract (d_subtract.dvs K) (d_subtract.kws K) (He.ga K "subtract") ["one", "other"] (spD ⟨K, cm, tb⟩ m_subtract)) : CalD P w K mg base 4 "subtract_multiple" s_subtract_multiple (d_subtract_multiple.dvs K) (d_subtract_multiple.kws K) (He.ga K "subtract_multiple") ["row", "other", "quantity"] (spD ⟨K, cm, tb⟩ m_subtract_multiple) := by
  obtain ⟨fd, F⟩ := T.F_subtract_multiple
  have sc := sc_subtract_multiple
  refine CalD.mk' (fn_spD F sc b_subtract_multiple (k := 3) (fun cdv A outer s H E A0 hr => ?_)) F
  have hu : (A.deeper (envOfC "subtract_multiple" (defScope s_subtract_multiple) s.heap.objs.size (He.ga K "subtract_multiple") cdv)).units + 65 < cLine := by
    have := hr.un
    omega
  have tk : L2N.Takes (cxOf (L2N.CX P w) P w K mg base ["row", "other", "quantity", "one", "two"] "subtract_multiple" (defScope s_subtract_multiple) (He.ga K "subtract_multiple") cdv A outer s H E) (fun c dd _ H' => E c dd H') := L2N.takes_of rfl rfl rfl rfl
  have hp : PassesOwn (model P w) (A.deeper (envOfC "subtract_multiple" (defScope s_subtract_multiple) s.heap.objs.size (He.ga K "subtract_multiple") cdv)) (envOfC "subtract_multiple" (defScope s_subtract_multiple) s.heap.objs.size (He.ga K "subtract_multiple") cdv) (cxOf (L2N.CX P w) P w K mg base ["row", "other", "quantity", "one", "two"] "subtract_multiple" (defScope s_subtract_multiple) (He.ga K "subtract_multiple") cdv A outer s H E).xe := passes_of rfl
  exact (dss_one (ds_ret [] (by exact de_ofF (dLcE (own := [("one", 3), ("two", 4)]) (vs := [3, 4]) sc.nd (blkOk_by (own := [("one", 3), ("two", 4)]) (N := ["row", "other", "quantity", "one", "two"]) (sc := defScope s_subtract_multiple) (by decide +kernel)) (di_zip (fun h => RZ.pi_zipA rfl T.n_zip h) (da_cons (dV 0) (da_cons (dV 1) da_nil))) (by decide) (fun _ _ _ _ _ => (dg_tup (fun h => pg_tup rfl h) (dgs_cons (dNm 3 sc.nd) (dgs_cons (dNm 4 sc.nd) dgs_nil)))) (fun _ _ _ _ _ => dts_nil) (fun _ _ _ _ _ => (de_ifExp (dEqT (dV 4) (dGlob (v := .ref (He.ga K "ZERO")) k_ZERO T.g_ZERO rfl T.r_ZERO) hu) (dV 3) (dCallE (G_subtract.cal bd_subtract) (hr.mono (by decide)) takes0N T.g_subtract T.k_subtract (da_cons (dV 3) (da_cons (dCallE (G_multiply.cal bd_multiply) (hr.mono (by decide)) takes0N T.g_multiply T.k_multiply (da_cons (dV 2) (da_cons (dV 4) da_nil))) da_nil)))))))))
theorem sc_scaled : FnScope ["row", "quantity", "one"] ["row", "quantity"] (defScope s_scaled) := ⟨rfl, rfl, rfl, by decide +kernel, rfl, by decide +kernel, by decide +kernel⟩
theorem ok_scaled (T : Txt K mg cm tb) (G_divide : CalD P w K mg base 3 "divide" s_divide (d_divide.dvs K) (d_divide.kws K) (He.ga K "divide") ["one", "other"] (spD ⟨K, cm, tb⟩ m_divide)) : CalD P w K mg base 4 "scaled" s_scaled (d_scaled.dvs K) (d_scaled.kws K) (He.ga K "scaled") ["row", "quantity"] (spD ⟨K, cm, tb⟩ m_scaled) := by
  obtain ⟨fd, F⟩ := T.F_scaled
  have sc := sc_scaled
  refine CalD.mk' (fn_spD F sc b_scaled (k := 3) (fun cdv A outer s H E A0 hr => ?_)) F
  have hu : (A.deeper (envOfC "scaled" (defScope s_scaled) s.heap.objs.size (He.ga K "scaled") cdv)).units + 65 < cLine := by
    have := hr.un
    omega
  have tk : L2N.Takes (cxOf (L2N.CX P w) P w K mg base ["row", "quantity", "one"] "scaled" (defScope s_scaled) (He.ga K "scaled") cdv A outer s H E) (fun c dd _ H' => E c dd H') := L2N.takes_of rfl rfl rfl rfl
  have hp : PassesOwn (model P w) (A.deeper (envOfC "scaled" (defScope s_scaled) s.heap.objs.size (He.ga K "scaled") cdv)) (envOfC "scaled" (defScope s_scaled) s.heap.objs.size (He.ga K "scaled") cdv) (cxOf (L2N.CX P w) P w K mg base ["row", "quantity", "one"] "scaled" (defScope s_scaled) (He.ga K "scaled") cdv A outer s H E).xe := passes_of rfl
  exact (dss_one (ds_ret [] (by exact de_ofF (dLcE (own := [("one", 2)]) (vs := [2]) sc.nd (blkOk_by (own := [("one", 2)]) (N := ["row", "quantity", "one"]) (sc := defScope s_scaled) (by decide +kernel)) (di_seq (dV 0)) (by decide) (fun _ _ _ _ _ => (dNm 2 sc.nd)) (fun _ _ _ _ _ => dts_nil) (fun _ _ _ _ _ => (de_ifExp (dEqT (dV 2) (dGlob (v := .ref (He.ga K "ZERO")) k_ZERO T.g_ZERO rfl T.r_ZERO) hu) (dV 2) (dCallE (G_divide.cal bd_divide) (hr.mono (by decide)) takes0N T.g_divide T.k_divide (da_cons (dV 2) (da_cons (dV 1) da_nil)))))))))
theorem sc_pivot : FnScope ["lines", "pos", "spot", "here", "result", "k", "line"] ["lines", "pos", "spot"] (defScope s_pivot) := ⟨rfl, rfl, rfl, by decide +kernel, rfl, by decide +kernel, by decide +kernel⟩
theorem ok_pivot (T : Txt K mg cm tb) (G_scaled : CalD P w K mg base 4 "scaled" s_scaled (d_scaled.dvs K) (d_scaled.kws K) (He.ga K "scaled") ["row", "quantity"] (spD ⟨K, cm, tb⟩ m_scaled)) (G_subtract_multiple : CalD P w K mg base 4 "subtract_multiple" s_subtract_multiple (d_subtract_multiple.dvs K) (d_subtract_multiple.kws K) (He.ga K "subtract_multiple") ["row", "other", "quantity"] (spD ⟨K, cm, tb⟩ m_subtract_multiple)) : CalD P w K mg base 5 "pivot" s_pivot (d_pivot.dvs K) (d_pivot.kws K) (He.ga K "pivot") ["lines", "pos", "spot"] (spF ⟨K, cm, tb⟩ m_pivot) := by
  obtain ⟨fd, F⟩ := T.F_pivot
  have sc := sc_pivot
  refine CalD.mk' (fn_spF F sc b_pivot (k := 4) (fun cdv A outer s H E A0 hr => ?_)) F
  have hu : (A.deeper (envOfC "pivot" (defScope s_pivot) s.heap.objs.size (He.ga K "pivot") cdv)).units + 65 < cLine := by
    have := hr.un
    omega
  have tk : L2N.Takes (cxOf (L2N.CX P w) P w K mg base ["lines", "pos", "spot", "here", "result", "k", "line"] "pivot" (defScope s_pivot) (He.ga K "pivot") cdv A outer s H E) (fun c dd _ H' => E c dd H') := L2N.takes_of rfl rfl rfl rfl
  have hp : PassesOwn (model P w) (A.deeper (envOfC "pivot" (defScope s_pivot) s.heap.objs.size (He.ga K "pivot") cdv)) (envOfC "pivot" (defScope s_pivot) s.heap.objs.size (He.ga K "pivot") cdv) (cxOf (L2N.CX P w) P w K mg base ["lines", "pos", "spot", "here", "result", "k", "line"] "pivot" (defScope s_pivot) (He.ga K "pivot") cdv A outer s H E).xe := passes_of rfl
  exact (dsfs_cons (dsf_of (ds_set (i := 3) (fun h => ps_set sc.nd rfl (by first | exact Or.inl rfl | exact Or.inr rfl) h) (dCallE (G_scaled.cal bd_scaled) (hr.mono (by decide)) tk T.g_scaled T.k_scaled (da_cons (dIxE (dV 0) (dV 1)) (da_cons (dIxE (dIxE (dV 0) (dV 1)) (dV 2)) da_nil)))))
    (dsfs_cons (dsf_of (ds_setF (i := 4) (fun h => ps_set sc.nd rfl (by first | exact Or.inl rfl | exact Or.inr rfl) h) (df_lst (fun h => pe_lst h) da_nil)))
    (dsfs_cons (dsf_of (ds_for (fun h1 h2 h3 => ps_for hp rfl h1 h2 h3) (di_enum (fun h => pi_enumA rfl T.n_enumerate h) (da_cons (dV 0) da_nil)) (dg_tup (fun h => pg_tup rfl h) (dgs_cons (dNm 5 sc.nd) (dgs_cons (dNm 6 sc.nd) dgs_nil))) (dss_one (ds_if (dEqT (dV 5) (dV 1) hu) (dss_one (ds_app (i := 4) (fun h => ps_expr (pe_bm PySem.F.plainAttrs_list PySem.F.slot_list_append PySem.F.type_list_append mt_append (pv 4) (pa_cons h pa_nil))) (dV 3))) (dss_one (ds_app (i := 4) (fun h => ps_expr (pe_bm PySem.F.plainAttrs_list PySem.F.slot_list_append PySem.F.type_list_append mt_append (pv 4) (pa_cons h pa_nil))) (de_ifExp (dEqT (dIxE (dV 6) (dV 2)) (dGlob (v := .ref (He.ga K "ZERO")) k_ZERO T.g_ZERO rfl T.r_ZERO) hu) (dV 6) (dCallE (G_subtract_multiple.cal bd_subtract_multiple) (hr.mono (by decide)) tk T.g_subtract_multiple T.k_subtract_multiple (da_cons (dV 6) (da_cons (dV 3) (da_cons (dIxE (dV 6) (dV 2)) da_nil)))))))))))
    (dsfs_one (dsf_retO (i := 4) (pv 4))))))
theorem sc_unit_row : FnScope ["quantity", "pos", "k"] ["quantity", "pos"] (defScope s_unit_row) := ⟨rfl, rfl, rfl, by decide +kernel, rfl, by decide +kernel, by decide +kernel⟩
theorem ok_unit_row (T : Txt K mg cm tb) : CalD P w K mg base 1 "unit_row" s_unit_row (d_unit_row.dvs K) (d_unit_row.kws K) (He.ga K "unit_row") ["quantity", "pos"] (spD ⟨K, cm, tb⟩ m_unit_row) := by
  obtain ⟨fd, F⟩ := T.F_unit_row
  have sc := sc_unit_row
  refine CalD.mk' (fn_spD F sc b_unit_row (k := 0) (fun cdv A outer s H E A0 hr => ?_)) F
  have hu : (A.deeper (envOfC "unit_row" (defScope s_unit_row) s.heap.objs.size (He.ga K "unit_row") cdv)).units + 65 < cLine := by
    have := hr.un
    omega
  have tk : L2N.Takes (cxOf (L2N.CX P w) P w K mg base ["quantity", "pos", "k"] "unit_row" (defScope s_unit_row) (He.ga K "unit_row") cdv A outer s H E) (fun c dd _ H' => E c dd H') := L2N.takes_of rfl rfl rfl rfl
  have hp : PassesOwn (model P w) (A.deeper (envOfC "unit_row" (defScope s_unit_row) s.heap.objs.size (He.ga K "unit_row") cdv)) (envOfC "unit_row" (defScope s_unit_row) s.heap.objs.size (He.ga K "unit_row") cdv) (cxOf (L2N.CX P w) P w K mg base ["quantity", "pos", "k"] "unit_row" (defScope s_unit_row) (He.ga K "unit_row") cdv A outer s H E).xe := passes_of rfl
  exact (dss_one (ds_ret [] (by exact de_ofF (dLcE (own := [("k", 2)]) (vs := [2]) sc.nd (blkOk_by (own := [("k", 2)]) (N := ["quantity", "pos", "k"]) (sc := defScope s_unit_row) (by decide +kernel)) (di_range1 rfl T.n_range (da_cons (dV 0) da_nil) (by rfl) alen1) (by decide) (fun _ _ _ _ _ => (dNm 2 sc.nd)) (fun _ _ _ _ _ => dts_nil) (fun _ _ _ _ _ => (de_ifExp (dEqT (dV 2) (dV 1) hu) (dGlob (v := .ref (He.ga K "ONE")) k_ONE T.g_ONE rfl T.r_ONE) (dGlob (v := .ref (He.ga K "ZERO")) k_ZERO T.g_ZERO rfl T.r_ZERO)))))))
theorem sc_solve_linear : FnScope ["rows", "targets", "quantity", "lines", "pos", "row", "target", "homes", "spot", "line", "result", "used", "free", "home", "place"] ["rows", "targets"] (defScope s_solve_linear) := ⟨rfl, rfl, rfl, by decide +kernel, rfl, by decide +kernel, by decide +kernel⟩
theorem ok_solve_linear (T : Txt K mg cm tb) (G_check_shape : CalD P w K mg base 3 "check_shape" s_check_shape (d_check_shape.dvs K) (d_check_shape.kws K) (He.ga K "check_shape") ["rows", "targets"] (spD ⟨K, cm, tb⟩ m_check_shape)) : CalD P w K mg base 6 "solve_linear" s_solve_linear (d_solve_linear.dvs K) (d_solve_linear.kws K) (He.ga K "solve_linear") ["rows", "targets"] (spD ⟨K, cm, tb⟩ m_solve_linear) := by
  obtain ⟨fd, F⟩ := T.F_solve_linear
  have sc := sc_solve_linear
  refine CalD.mk' (fn_spD F sc b_solve_linear (k := 5) (fun cdv A outer s H E A0 hr => ?_)) F
  have hu : (A.deeper (envOfC "solve_linear" (defScope s_solve_linear) s.heap.objs.size (He.ga K "solve_linear") cdv)).units + 65 < cLine := by
    have := hr.un
    omega
  have tk : L2N.Takes (cxOf (L2N.CX P w) P w K mg base ["rows", "targets", "quantity", "lines", "pos", "row", "target", "homes", "spot", "line", "result", "used", "free", "home", "place"] "solve_linear" (defScope s_solve_linear) (He.ga K "solve_linear") cdv A outer s H E) (fun c dd _ H' => E c dd H') := L2N.takes_of rfl rfl rfl rfl
  have hp : PassesOwn (model P w) (A.deeper (envOfC "solve_linear" (defScope s_solve_linear) s.heap.objs.size (He.ga K "solve_linear") cdv)) (envOfC "solve_linear" (defScope s_solve_linear) s.heap.objs.size (He.ga K "solve_linear") cdv) (cxOf (L2N.CX P w) P w K mg base ["rows", "targets", "quantity", "lines", "pos", "row", "target", "homes", "spot", "line", "result", "used", "free", "home", "place"] "solve_linear" (defScope s_solve_linear) (He.ga K "solve_linear") cdv A outer s H E).xe := passes_of rfl
  exact (dss_cons (ds_expr (dCallE (G_check_shape.cal bd_check_shape) (hr.mono (by decide)) tk T.g_check_shape T.k_check_shape (da_cons (dV 0) (da_cons (dV 1) da_nil))))
    (dss_cons ds_bad
    (dss_cons ds_bad
    (dss_cons ds_bad
    (dss_cons ds_bad
    (dss_cons ds_bad
    (dss_cons ds_bad
    (dss_cons ds_bad
    (dss_cons ds_bad
    (dss_one ds_bad))))))))))
theorem sc_check_solution : FnScope ["rows", "targets", "answer", "kind", "row", "quantity", "sums", "combined", "pos", "line", "weight", "target", "one", "two"] ["rows", "targets", "answer"] (defScope s_check_solution) := ⟨rfl, rfl, rfl, by decide +kernel, rfl, by decide +kernel, by decide +kernel⟩
theorem ok_check_solution (T : Txt K mg cm tb) (G_check_shape : CalD P w K mg base 3 "check_shape" s_check_shape (d_check_shape.dvs K) (d_check_shape.kws K) (He.ga K "check_shape") ["rows", "targets"] (spD ⟨K, cm, tb⟩ m_check_shape)) : CalD P w K mg base 5 "check_solution" s_check_solution (d_check_solution.dvs K) (d_check_solution.kws K) (He.ga K "check_solution") ["rows", "targets", "answer"] (spD ⟨K, cm, tb⟩ m_check_solution) := by
  obtain ⟨fd, F⟩ := T.F_check_solution
  have sc := sc_check_solution
  refine CalD.mk' (fn_spD F sc b_check_solution (k := 4) (fun cdv A outer s H E A0 hr => ?_)) F
  have hu : (A.deeper (envOfC "check_solution" (defScope s_check_solution) s.heap.objs.size (He.ga K "check_solution") cdv)).units + 65 < cLine := by
    have := hr.un
    omega
  have tk : L2N.Takes (cxOf (L2N.CX P w) P w K mg base ["rows", "targets", "answer", "kind", "row", "quantity", "sums", "combined", "pos", "line", "weight", "target", "one", "two"] "check_solution" (defScope s_check_solution) (He.ga K "check_solution") cdv A outer s H E) (fun c dd _ H' => E c dd H') := L2N.takes_of rfl rfl rfl rfl
  have hp : PassesOwn (model P w) (A.deeper (envOfC "check_solution" (defScope s_check_solution) s.heap.objs.size (He.ga K "check_solution") cdv)) (envOfC "check_solution" (defScope s_check_solution) s.heap.objs.size (He.ga K "check_solution") cdv) (cxOf (L2N.CX P w) P w K mg base ["rows", "targets", "answer", "kind", "row", "quantity", "sums", "combined", "pos", "line", "weight", "target", "one", "two"] "check_solution" (defScope s_check_solution) (He.ga K "check_solution") cdv A outer s H E).xe := passes_of rfl
  exact (dss_cons (ds_expr (dCallE (G_check_shape.cal bd_check_shape) (hr.mono (by decide)) tk T.g_check_shape T.k_check_shape (da_cons (dV 0) (da_cons (dV 1) da_nil))))
    (dss_cons ds_bad
    (dss_cons ds_bad
    (dss_cons ds_bad
    (dss_cons ds_bad
    (dss_cons ds_bad
    (dss_cons ds_bad
    (dss_one ds_bad))))))))
theorem sc__law_source : FnScope ["_law_script", "_law_knot", "_law_cell"] ["_law_script"] (defScope s__law_source) := ⟨rfl, rfl, rfl, by decide +kernel, rfl, by decide +kernel, by decide +kernel⟩
theorem ok__law_source (T : Txt K mg cm tb) : Cal P w K mg base 1 (He.ga K "_law_source") ["_law_script"] (spSrc K) := by
  obtain ⟨fd, F⟩ := T.F__law_source
  have sc := sc__law_source
  refine Cal.mk' (F.ok sc (k := 0) (fun vs H Q E ⟨a, ns, h, _⟩ => by rw [h]; rfl) fun cdv A outer s H vs Q E hr h => ?_) (bd__law_source fd F)
  obtain ⟨b, ns, rfl, hS, hl, hq⟩ := h
  have cut : cutV (ns.map V.int) none (some 63) = ns.map V.int := cut63 hl
  refine ⟨_, pss_cons (ps_set (i := 1) sc.nd rfl (by first | exact Or.inl rfl | exact Or.inr rfl) (pe_op op_add pe_int (pe_op op_mul pe_int (pe_callB call_len_seq rfl T.n_len PySem.boot_len (pa_cons (pe_slice sl_list (pv 0) po_none (po_some pe_int)) pa_nil)))))
    (pss_cons (ps_for (passes_of rfl) rfl (pi_list (pe_slice sl_list (pv 0) po_none (po_some pe_int))) (pg_name (i := 2) sc.nd rfl (by first | exact Or.inl rfl | exact Or.inr rfl))
      (pss_one (ps_set (i := 1) sc.nd rfl (by first | exact Or.inl rfl | exact Or.inr rfl) (pe_op op_mod (pe_op op_add (pe_op op_add (pe_op op_mul (pv 1) pe_int) (pe_op op_mod (pv 2) pe_int)) pe_int) pe_int))))
    (pss_one (ps_ret (pe_lst (pa_cons (pe_callTy call_list_of rfl T.n_list (by decide +kernel) (pa_cons (pe_slice sl_list (pv 0) po_none (po_some pe_int)) pa_nil)) (pa_cons pe_int (pa_cons pe_int (pa_cons (pv 1) pa_nil)))))))), ?_⟩
  have s1 : ∀ {H1 : Hp} {p : Addr} {o : HO}, Same H H1 → H1 p = none → Same H (upd H1 p o) := fun s n a o z => by rw [upd_ne (ne_of_none (s a o z) n)]; exact s a o z
  refine ⟨.ref b, rfl, 63, rfl, b, _, rfl, hS, fun p1 np1 => ⟨p1, _, rfl, .inl (SqL.of upd_same), 67, _, rfl, rfl, .inl ⟨by decide, by decide⟩, 9472, _, rfl, rfl, ?_⟩⟩
  rw [cut]
  have e1 := s1 (o := .lst (ns.map V.int)) (Same.refl H) np1
  refine ⟨.ref b, rfl, 63, rfl, b, _, rfl, e1.seq hS, fun p2 np2 => ⟨p2, rfl, ⟨_, SqL.of upd_same⟩, ?_⟩⟩
  rw [cut]
  refine for_list (K := K) (a := p2) (xs := ns.map V.int) (fun i σ H2 => ∃ (z : Int) (v : Option V), σ = [some (.ref b), some (.int z), v] ∧ Same H H2 ∧ H2 p2 = some (.lst (ns.map V.int)) ∧ 0 ≤ z ∧ z < 2147483563) ⟨_, none, rfl, s1 e1 np2, upd_same, by omega, by rw [List.length_map]; omega⟩ (fun i σ H2 _ ⟨_, _, _, _, h, _⟩ => SqL.of h) ?_ ?_
  · rintro i y σ H2 hi ⟨z, v, rfl, s2, h2, z0, z1⟩
    obtain ⟨q, rfl⟩ : ∃ q, y = V.int q := by
      rw [List.getElem?_map] at hi
      cases e : ns[i]? with
      | none => rw [e] at hi; cases hi
      | some q => rw [e] at hi; exact ⟨q, (Option.some.inj hi).symm⟩
    refine ⟨.int z, rfl, z, 40014, rfl, rfl, .inl ⟨by omega, by omega⟩, .int q, rfl, q, 2147483563, rfl, rfl, (by decide : (0 : Int) < 2147483563), _, _, rfl, rfl, _, _, rfl, rfl, _, _, rfl, rfl, (by decide : (0 : Int) < 2147483563), ?_⟩
    exact ⟨_, _, rfl, s2, h2, Int.emod_nonneg _ (by decide), Int.emod_lt_of_pos _ (by decide)⟩
  · rintro σ H2 ⟨z, v, rfl, s2, h2, z0, z1⟩
    refine ⟨.ref b, rfl, 63, rfl, b, _, rfl, s2.seq hS, fun p3 np3 => ⟨p3, _, rfl, .inl (SqL.of upd_same), fun c nc => ⟨.int z, rfl, (by show 4 ≤ sizeLine; decide), fun r nr => ?_⟩⟩⟩
    rw [cut] at nc nr ⊢
    have e3 := s1 (o := .lst (ns.map V.int)) s2 np3
    have e4 := s1 (o := .lst (ns.map V.int)) e3 nc
    have ncr : c ≠ r := ne_of_none upd_same nr
    exact hq _ r c ⟨ns, 0, 0, z⟩ (s1 e4 nr) (e4.free nr) (e3.free nc) ⟨ncr, upd_same, by rw [upd_ne ncr, upd_same], Int.le_refl _, Int.le_refl _, z0, z1, hl⟩

theorem sc__law_draw : FnScope ["_law_rng", "_law_quantity", "_law_seed", "_law_cell", "_law_got"] ["_law_rng", "_law_quantity"] (defScope s__law_draw) := ⟨rfl, rfl, rfl, by decide +kernel, rfl, by decide +kernel, by decide +kernel⟩
theorem ok__law_draw (T : Txt K mg cm tb) : CalD P w K mg base 1 "_law_draw" s__law_draw (d__law_draw.dvs K) (d__law_draw.kws K) (He.ga K "_law_draw") ["_law_rng", "_law_quantity"] (spG ⟨K, cm, tb⟩ m__law_draw) := by
  obtain ⟨fd, F⟩ := T.F__law_draw
  have sc := sc__law_draw
  refine CalD.mk' (fn_spG F sc b__law_draw (k := 0) (fun cdv A outer s H E A0 r c hr => ?_)) F
  have hu : (A.deeper (envOfC "_law_draw" (defScope s__law_draw) s.heap.objs.size (He.ga K "_law_draw") cdv)).units + 65 < cLine := by
    have := hr.un
    omega
  have tk : L2N.Takes (cxOf (L2N.CX P w) P w K mg base ["_law_rng", "_law_quantity", "_law_seed", "_law_cell", "_law_got"] "_law_draw" (defScope s__law_draw) (He.ga K "_law_draw") cdv A outer s H E) (fun c dd _ H' => E c dd H') := L2N.takes_of rfl rfl rfl rfl
  have hp : PassesOwn (model P w) (A.deeper (envOfC "_law_draw" (defScope s__law_draw) s.heap.objs.size (He.ga K "_law_draw") cdv)) (envOfC "_law_draw" (defScope s__law_draw) s.heap.objs.size (He.ga K "_law_draw") cdv) (cxOf (L2N.CX P w) P w K mg base ["_law_rng", "_law_quantity", "_law_seed", "_law_cell", "_law_got"] "_law_draw" (defScope s__law_draw) (He.ga K "_law_draw") cdv A outer s H E).xe := passes_of rfl
  exact (dss_cons (ds_if (DW.pt (dw_and (dEqT (de_rgI (pv 0)) de_int hu) (dw_and1 (dLtT (de_rgI (pv 0)) (de_rgLen (pv 0) (fun h => pe_callB call_len rfl T.n_len bb_len h)))))) (dss_cons (ds_set (i := 3) (fun h => ps_set sc.nd rfl (by first | exact Or.inl rfl | exact Or.inr rfl) h) (de_rgCell (pv 0) (pv 0)))
    (dss_cons (ds_rgSet (i := 0) (fun h hk => ps_asg h (pg_sub (pv 0) hk set_list)) pe_int (dAddE (de_rgI (pv 0)) de_int))
    (dss_one (ds_if (dGeT (dV 3) (dPowE de_int de_int)) (dss_one (ds_rgSet (i := 0) (fun h hk => ps_asg h (pg_sub (pv 0) hk set_list)) pe_int (dV 3))) (dss_one (ds_rgSet (i := 0) (fun h hk => ps_asg h (pg_sub (pv 0) hk set_list)) pe_int (dModE (dAddE (dAddE (dMulE (de_rgI (pv 0)) de_int) (dMulE (dModE (dV 3) de_int) de_int)) (de_rgI (pv 0))) de_int))))))) dss_nil)
    (dss_cons (ds_if (dGtT (de_rgI (pv 0)) de_int) (dss_cons (ds_set (i := 4) (fun h => ps_set sc.nd rfl (by first | exact Or.inl rfl | exact Or.inr rfl) h) (dModE (de_rgI (pv 0)) (dV 1)))
    (dss_cons (ds_rgSet (i := 0) (fun h hk => ps_asg h (pg_sub (pv 0) hk set_list)) pe_int (dFDivE (de_rgI (pv 0)) (dV 1)))
    (dss_one (ds_ret [] (dV 4))))) dss_nil)
    (dss_cons (ds_set (i := 2) (fun h => ps_set sc.nd rfl (by first | exact Or.inl rfl | exact Or.inr rfl) h) (de_rgI (pv 0)))
    (dss_cons (ds_rgSet (i := 0) (fun h hk => ps_asg h (pg_sub (pv 0) hk set_list)) pe_int (dModE (dAddE (dAddE (dMulE (dV 2) (dV 2)) (dMulE (dV 2) de_int)) de_int) de_int))
    (dss_one (ds_ret [] (dModE (dAddE (dFDivE (de_rgI (pv 0)) de_int) (dMulE (dModE (de_rgI (pv 0)) de_int) de_int)) (dV 1))))))))
theorem sc__law_choice : FnScope ["_law_rng", "_law_some"] ["_law_rng", "_law_some"] (defScope s__law_choice) := ⟨rfl, rfl, rfl, by decide +kernel, rfl, by decide +kernel, by decide +kernel⟩
theorem ok__law_choice (T : Txt K mg cm tb) (G__law_draw : CalD P w K mg base 1 "_law_draw" s__law_draw (d__law_draw.dvs K) (d__law_draw.kws K) (He.ga K "_law_draw") ["_law_rng", "_law_quantity"] (spG ⟨K, cm, tb⟩ m__law_draw)) : CalD P w K mg base 2 "_law_choice" s__law_choice (d__law_choice.dvs K) (d__law_choice.kws K) (He.ga K "_law_choice") ["_law_rng", "_law_some"] (spG ⟨K, cm, tb⟩ m__law_choice) := by
  obtain ⟨fd, F⟩ := T.F__law_choice
  have sc := sc__law_choice
  refine CalD.mk' (fn_spG F sc b__law_choice (k := 1) (fun cdv A outer s H E A0 r c hr => ?_)) F
  have hu : (A.deeper (envOfC "_law_choice" (defScope s__law_choice) s.heap.objs.size (He.ga K "_law_choice") cdv)).units + 65 < cLine := by
    have := hr.un
    omega
  have tk : L2N.Takes (cxOf (L2N.CX P w) P w K mg base ["_law_rng", "_law_some"] "_law_choice" (defScope s__law_choice) (He.ga K "_law_choice") cdv A outer s H E) (fun c dd _ H' => E c dd H') := L2N.takes_of rfl rfl rfl rfl
  have hp : PassesOwn (model P w) (A.deeper (envOfC "_law_choice" (defScope s__law_choice) s.heap.objs.size (He.ga K "_law_choice") cdv)) (envOfC "_law_choice" (defScope s__law_choice) s.heap.objs.size (He.ga K "_law_choice") cdv) (cxOf (L2N.CX P w) P w K mg base ["_law_rng", "_law_some"] "_law_choice" (defScope s__law_choice) (He.ga K "_law_choice") cdv A outer s H E).xe := passes_of rfl
  exact (dss_one (ds_ret [] (dIxE (dV 1) (dCallG (i := 0) (G__law_draw.cal bd__law_draw) (hr.mono (by decide)) T.g__law_draw T.k__law_draw (pv 0) (da_cons (dLenE T.n_len (da_cons (dV 1) da_nil)) da_nil)))))
theorem sc__law_equal : FnScope ["_law_result", "_law_expected", "_law_one", "_law_other"] ["_law_result", "_law_expected"] (defScope s__law_equal) := ⟨rfl, rfl, rfl, by decide +kernel, rfl, by decide +kernel, by decide +kernel⟩
theorem rec__law_equal (T : Txt K mg cm tb) (n : Nat) : CalD P w K mg base (1 + n) "_law_equal" s__law_equal (d__law_equal.dvs K) (d__law_equal.kws K) (He.ga K "_law_equal") ["_law_result", "_law_expected"] (spD ⟨K, cm, tb⟩ (m__law_equal n)) := by
  obtain ⟨fd__law_equal, F__law_equal⟩ := T.F__law_equal
  induction n with
  | zero => exact CalD.mk' (fn_stuck fun _ => by rw [m__law_equal]) F__law_equal
  | succ n IH =>
    have IH__law_equal := IH
    have sc := sc__law_equal
    rw [m__law_equal]
    refine CalD.mk' (fn_spD F__law_equal sc (b__law_equal (m__law_equal n)) (k := 1 + n) (fun cdv A outer s H E A0 hr => ?_)) F__law_equal
    have hu : (A.deeper (envOfC "_law_equal" (defScope s__law_equal) s.heap.objs.size (He.ga K "_law_equal") cdv)).units + 65 < cLine := by
      have := hr.un
      omega
    have tk : L2N.Takes (cxOf (L2N.CX P w) P w K mg base ["_law_result", "_law_expected", "_law_one", "_law_other"] "_law_equal" (defScope s__law_equal) (He.ga K "_law_equal") cdv A outer s H E) (fun c dd _ H' => E c dd H') := L2N.takes_of rfl rfl rfl rfl
    have hp : PassesOwn (model P w) (A.deeper (envOfC "_law_equal" (defScope s__law_equal) s.heap.objs.size (He.ga K "_law_equal") cdv)) (envOfC "_law_equal" (defScope s__law_equal) s.heap.objs.size (He.ga K "_law_equal") cdv) (cxOf (L2N.CX P w) P w K mg base ["_law_result", "_law_expected", "_law_one", "_law_other"] "_law_equal" (defScope s__law_equal) (He.ga K "_law_equal") cdv A outer s H E).xe := passes_of rfl
    exact (dss_cons (ds_if (dIsNT (dV 1) de_non) (dss_one (ds_ret [] (dIsNE (dV 0) de_non))) dss_nil)
    (dss_cons (ds_if (DW.pt (dw_or (dt_val (dIsiE .tList T.n_isinstance T.n_list (dV 1))) (dw_or1 (dt_val (dIsiE .tTup T.n_isinstance T.n_tuple (dV 1)))))) (dss_cons (ds_if (DW.pt (dw_or (dNeT (dIsiE .tList T.n_isinstance T.n_list (dV 0)) (dIsiE .tList T.n_isinstance T.n_list (dV 1)) hu) (dw_or1 (dNeT (dIsiE .tTup T.n_isinstance T.n_tuple (dV 0)) (dIsiE .tTup T.n_isinstance T.n_tuple (dV 1)) hu)))) (dss_one (ds_ret [] de_bl)) dss_nil)
    (dss_one (ds_ret [] (de_and (dEqE (dLenE T.n_len (da_cons (dV 0) da_nil)) (dLenE T.n_len (da_cons (dV 1) da_nil)) hu) (de_one (dAllE T.n_all (da_cons (by exact de_ofF (dLcE (own := [("_law_one", 2), ("_law_other", 3)]) (vs := [2, 3]) sc.nd (blkOk_by (own := [("_law_one", 2), ("_law_other", 3)]) (N := ["_law_result", "_law_expected", "_law_one", "_law_other"]) (sc := defScope s__law_equal) (by decide +kernel)) (di_zip (fun h => RZ.pi_zipA rfl T.n_zip h) (da_cons (dV 0) (da_cons (dV 1) da_nil))) (by decide) (fun _ _ _ _ _ => (dg_tup (fun h => pg_tup rfl h) (dgs_cons (dNm 2 sc.nd) (dgs_cons (dNm 3 sc.nd) dgs_nil)))) (fun _ _ _ _ _ => dts_nil) (fun _ _ _ _ _ => (dCallE (IH__law_equal.cal bd__law_equal) (hr.mono (by omega)) takes0N T.g__law_equal T.k__law_equal (da_cons (dV 2) (da_cons (dV 3) da_nil)))))) da_nil))))))) dss_nil)
    (dss_cons (ds_if (DW.pt (dw_or (dNeT (dIsiE .tBool T.n_isinstance T.n_bool (dV 1)) (dIsiE .tBool T.n_isinstance T.n_bool (dV 0)) hu) (dw_or1 (dNeT (dIsiE .tInt T.n_isinstance T.n_int (dV 1)) (dIsiE .tInt T.n_isinstance T.n_int (dV 0)) hu)))) (dss_one (ds_ret [] de_bl)) dss_nil)
    (dss_one (ds_ret [] (de_and (dEqE (dIsiE .tStr T.n_isinstance T.n_str (dV 0)) (dIsiE .tStr T.n_isinstance T.n_str (dV 1)) hu) (de_one (dEqE (dV 0) (dV 1) hu))))))))
theorem ok__law_equal (T : Txt K mg cm tb) : CalD P w K mg base 13 "_law_equal" s__law_equal (d__law_equal.dvs K) (d__law_equal.kws K) (He.ga K "_law_equal") ["_law_result", "_law_expected"] (spD ⟨K, cm, tb⟩ (m__law_equal 12)) := (rec__law_equal T 12)
theorem sc__law_error_field : FnScope ["_law_e"] ["_law_e"] (defScope s__law_error_field) := ⟨rfl, rfl, rfl, by decide +kernel, rfl, by decide +kernel, by decide +kernel⟩
theorem ok__law_error_field (T : Txt K mg cm tb) : ∃ fd, FnE P w K mg base 1 (He.ga K "_law_error_field") fd ["_law_e"] (spE ⟨K, cm, tb⟩ m__law_error_field) ∧ L2.Binds K fd ["_law_e"] [] := by
  obtain ⟨fd, F⟩ := T.F__law_error_field
  have sc := sc__law_error_field
  refine ⟨fd, fn_spE F sc (by decide) b__law_error_field (fun cdv A outer s H E A0 p hr => ?_), bd__law_error_field fd F⟩
  have hu := roomHU hr
  exact (dss_cons (ds_if (dInT (de_xf (p := p) rfl (List.mem_singleton.mpr rfl) (pv 0)) (dTupE (da_cons de_str (da_cons de_str (da_cons de_str (da_cons de_str (da_cons de_str (da_cons de_str (da_cons de_str (da_cons de_str da_nil))))))))) hu) (dss_one (ds_ret [] (de_xf (p := p) rfl (List.mem_singleton.mpr rfl) (pv 0)))) dss_nil)
    (dss_cons (ds_if (dInT (de_xf (p := p) rfl (List.mem_singleton.mpr rfl) (pv 0)) (dTupE (da_cons de_str (da_cons de_str da_nil))) hu) (dss_one (ds_ret [] (de_xf (p := p) rfl (List.mem_singleton.mpr rfl) (pv 0)))) dss_nil)
    (dss_cons (ds_if (dInT (de_xf (p := p) rfl (List.mem_singleton.mpr rfl) (pv 0)) (dTupE (da_cons de_str (da_cons de_str da_nil))) hu) (dss_one (ds_ret [] (de_xf (p := p) rfl (List.mem_singleton.mpr rfl) (pv 0)))) dss_nil)
    (dss_cons (ds_if (dInT (de_xf (p := p) rfl (List.mem_singleton.mpr rfl) (pv 0)) (dTupE (da_cons de_str (da_cons de_str da_nil))) hu) (dss_one (ds_ret [] (de_ifExp (dEqT (de_xf (p := p) rfl (List.mem_singleton.mpr rfl) (pv 0)) de_str hu) (de_xf (p := p) rfl (List.mem_singleton.mpr rfl) (pv 0)) (de_xf (p := p) rfl (List.mem_singleton.mpr rfl) (pv 0))))) dss_nil)
    (dss_one (ds_ret [] (de_ifExp (dEqT (de_xf (p := p) rfl (List.mem_singleton.mpr rfl) (pv 0)) de_str hu) (de_xf (p := p) rfl (List.mem_singleton.mpr rfl) (pv 0)) de_non)))))))
theorem sc__law_outcome : FnScope ["_law_ask", "_law_answer", "_law_tag", "_law_field", "_law_e"] ["_law_ask"] (defScope s__law_outcome) := ⟨rfl, rfl, rfl, by decide +kernel, rfl, by decide +kernel, by decide +kernel⟩
theorem out_gives {X : Cx} {q : Str} {k : Nat} {ge g a1 a2 a3 a4 : Addr} (hm : X.mg "_law_error_field" = some (.ref ge)) (hk : PySem.W.keepIn X.K (.ref ge) = true) (GE : ∃ fd, FnE X.prog X.w X.K X.mg X.base 1 ge fd ["_law_e"] (spE ⟨X.K, cm, tb⟩ m__law_error_field) ∧ L2.Binds X.K fd ["_law_e"] [])
    (g1 : X.mg "GaitError" = some (.ref a1)) (g2 : X.mg "NotFound" = some (.ref a2)) (g3 : X.mg "ZeroDenominator" = some (.ref a3)) (g4 : X.mg "EmptyHistory" = some (.ref a4))
    (h1 : ∀ c Ca, cm c = some Ca → PySem.W.exmAny X.K (.ref Ca) [.ref a1, .ref a2] = some (sel1 c)) (h2 : ∀ c Ca, cm c = some Ca → PySem.W.exmAny X.K (.ref Ca) [.ref a3, .ref a4] = some (sel2 c)) (cdg : Value) :
    GivesN X (k + 1) ["_law_ask", "_law_answer", "_law_tag", "_law_field", "_law_e"] "_law_outcome" (defScope s__law_outcome) g cdg (defBody s__law_outcome) "_law_ask" q (TTo ⟨X.K, cm, tb⟩ (ocD sel1 sel2 m__law_error_field)) := by
  obtain ⟨fdE, FE, bE⟩ := GE
  have sc := sc__law_outcome
  intro f c' s H Q tl hr act hc h
  refine ⟨_, ?_, outc_reads h1 h2 hc h⟩
  refine pss_cons (ps_asg (pe_tup (pa_cons pe_non (pa_cons pe_str (pa_cons pe_non pa_nil)))) (pg_tup rfl (pgs_cons (pg_name (i := 1) sc.nd rfl (by first | exact Or.inl rfl | exact Or.inr rfl)) (pgs_cons (pg_name (i := 2) sc.nd rfl (by first | exact Or.inl rfl | exact Or.inr rfl)) (pgs_cons (pg_name (i := 3) sc.nd rfl (by first | exact Or.inl rfl | exact Or.inr rfl)) pgs_nil)))))
    (pss_cons (ps_tryC (tb := tTry f c' q tl) (Wout := fun _ _ _ _ => False) rfl rfl sc.nd takes0N (fun W pn xe tk _ => ⟨fun pins s' σ H' D I ⟨E, hW, h0, hcc, htl⟩ => PSs.run (t := tAsg (fun σZ HZ Q => σZ = σ ∧ σZ[0]? = some (some (.ref f)) ∧ HZ c' = some (LamX.CodeO c' q) ∧ tl E HZ Q) (gName 1)) (pss_one (ps_set (i := 1) sc.nd rfl (by first | exact Or.inl rfl | exact Or.inr rfl) (act W pn xe E σ _ _ tk hW))) pins s' σ H' D I ⟨rfl, h0, hcc, htl⟩⟩)
      (ClsOk.cons (TestOk.two ⟨rfl, by decide, .inl g1⟩ ⟨rfl, by decide, .inl g2⟩) rfl rfl (fun a oe cls d pn hz hf => ⟨fun pins s' σ H' D I hh => PSs.run ?c1 pins s' σ H' D I (hh oe hz hf)⟩)
      (ClsOk.cons (TestOk.two ⟨rfl, by decide, .inl g3⟩ ⟨rfl, by decide, .inl g4⟩) rfl rfl (fun a oe cls d pn hz hf => ⟨fun pins s' σ H' D I hh => PSs.run ?c2 pins s' σ H' D I (hh oe hz hf)⟩) .nil)))
    (pss_one (ps_ret (pe_tup (pa_cons (pv 1) (pa_cons (pv 2) (pa_cons (pv 3) pa_nil)))))))
  case c1 => exact pss_one (ps_parH (i := 2) (j := 3) ⟨(a, oe), ⟨rfl, hf.elim fun vs hd => ⟨vs, hd, hz.2.2 vs hd⟩⟩, List.mem_cons_self⟩ sc.nd rfl rfl (by decide) rfl rfl (pa_cons (pe_xfP (p := (a, oe)) List.mem_cons_self (pv 4)) (pa_cons (pe_callE FE ⟨(hr.mono (j := 1) (by omega)).dp, (hr.mono (j := 1) (by omega)).un⟩ List.mem_cons_self rfl hm hk bE (pa_cons (pv 4) pa_nil)) pa_nil)) rfl)
  case c2 => exact pss_one (ps_set (i := 2) sc.nd rfl (by first | exact Or.inl rfl | exact Or.inr rfl) (pe_xfP (p := (a, oe)) List.mem_cons_self (pv 4)))
theorem sc__law_error : FnScope ["_law_ask"] ["_law_ask"] (defScope s__law_error) := ⟨rfl, rfl, rfl, by decide +kernel, rfl, by decide +kernel, by decide +kernel⟩
theorem sc__law_reduce : FnScope ["_law_num", "_law_den", "_law_one", "_law_other", "_law_sign"] ["_law_num", "_law_den"] (defScope s__law_reduce) := ⟨rfl, rfl, rfl, by decide +kernel, rfl, by decide +kernel, by decide +kernel⟩
theorem ok__law_reduce (T : Txt K mg cm tb) : CalD P w K mg base 1 "_law_reduce" s__law_reduce (d__law_reduce.dvs K) (d__law_reduce.kws K) (He.ga K "_law_reduce") ["_law_num", "_law_den"] (spD ⟨K, cm, tb⟩ m__law_reduce) := by
  obtain ⟨fd, F⟩ := T.F__law_reduce
  have sc := sc__law_reduce
  refine CalD.mk' (fn_spD F sc b__law_reduce (k := 0) (fun cdv A outer s H E A0 hr => ?_)) F
  have hu : (A.deeper (envOfC "_law_reduce" (defScope s__law_reduce) s.heap.objs.size (He.ga K "_law_reduce") cdv)).units + 65 < cLine := by
    have := hr.un
    omega
  have tk : L2N.Takes (cxOf (L2N.CX P w) P w K mg base ["_law_num", "_law_den", "_law_one", "_law_other", "_law_sign"] "_law_reduce" (defScope s__law_reduce) (He.ga K "_law_reduce") cdv A outer s H E) (fun c dd _ H' => E c dd H') := L2N.takes_of rfl rfl rfl rfl
  have hp : PassesOwn (model P w) (A.deeper (envOfC "_law_reduce" (defScope s__law_reduce) s.heap.objs.size (He.ga K "_law_reduce") cdv)) (envOfC "_law_reduce" (defScope s__law_reduce) s.heap.objs.size (He.ga K "_law_reduce") cdv) (cxOf (L2N.CX P w) P w K mg base ["_law_num", "_law_den", "_law_one", "_law_other", "_law_sign"] "_law_reduce" (defScope s__law_reduce) (He.ga K "_law_reduce") cdv A outer s H E).xe := passes_of rfl
  exact (dss_cons (ds_par (fun h => ps_par (i := 2) (j := 3) rfl sc.nd rfl rfl (by decide) rfl rfl h (by rfl)) (da_cons (dAbsE T.n_abs (da_cons (dV 0) da_nil)) (da_cons (dAbsE T.n_abs (da_cons (dV 1) da_nil)) da_nil)))
    (dss_cons (ds_while (fun e => fuGcd2 e) (fun h1 h2 => ps_while hp h1 h2) (dNeT (dV 3) de_int hu) (dss_one (ds_par (fun h => ps_par (i := 2) (j := 3) rfl sc.nd rfl rfl (by decide) rfl rfl h (by rfl)) (da_cons (dV 3) (da_cons (dModE (dV 2) (dV 3)) da_nil)))))
    (dss_cons (ds_set (i := 4) (fun h => ps_set sc.nd rfl (by first | exact Or.inl rfl | exact Or.inr rfl) h) (de_ifExp (dGtT (dV 1) de_int) de_int (dNegE de_int)))
    (dss_one (ds_ret [] (dTupE (da_cons (dFDivE (dMulE (dV 4) (dV 0)) (dV 2)) (da_cons (dFDivE (dMulE (dV 4) (dV 1)) (dV 2)) da_nil))))))))
theorem sc__law_add : FnScope ["_law_one", "_law_other"] ["_law_one", "_law_other"] (defScope s__law_add) := ⟨rfl, rfl, rfl, by decide +kernel, rfl, by decide +kernel, by decide +kernel⟩
theorem ok__law_add (T : Txt K mg cm tb) (G__law_reduce : CalD P w K mg base 1 "_law_reduce" s__law_reduce (d__law_reduce.dvs K) (d__law_reduce.kws K) (He.ga K "_law_reduce") ["_law_num", "_law_den"] (spD ⟨K, cm, tb⟩ m__law_reduce)) : CalD P w K mg base 2 "_law_add" s__law_add (d__law_add.dvs K) (d__law_add.kws K) (He.ga K "_law_add") ["_law_one", "_law_other"] (spD ⟨K, cm, tb⟩ m__law_add) := by
  obtain ⟨fd, F⟩ := T.F__law_add
  have sc := sc__law_add
  refine CalD.mk' (fn_spD F sc b__law_add (k := 1) (fun cdv A outer s H E A0 hr => ?_)) F
  have hu : (A.deeper (envOfC "_law_add" (defScope s__law_add) s.heap.objs.size (He.ga K "_law_add") cdv)).units + 65 < cLine := by
    have := hr.un
    omega
  have tk : L2N.Takes (cxOf (L2N.CX P w) P w K mg base ["_law_one", "_law_other"] "_law_add" (defScope s__law_add) (He.ga K "_law_add") cdv A outer s H E) (fun c dd _ H' => E c dd H') := L2N.takes_of rfl rfl rfl rfl
  have hp : PassesOwn (model P w) (A.deeper (envOfC "_law_add" (defScope s__law_add) s.heap.objs.size (He.ga K "_law_add") cdv)) (envOfC "_law_add" (defScope s__law_add) s.heap.objs.size (He.ga K "_law_add") cdv) (cxOf (L2N.CX P w) P w K mg base ["_law_one", "_law_other"] "_law_add" (defScope s__law_add) (He.ga K "_law_add") cdv A outer s H E).xe := passes_of rfl
  exact (dss_one (ds_ret [] (dCallE (G__law_reduce.cal bd__law_reduce) (hr.mono (by decide)) tk T.g__law_reduce T.k__law_reduce (da_cons (dAddE (dMulE (dIxE (dV 0) de_int) (dIxE (dV 1) de_int)) (dMulE (dIxE (dV 1) de_int) (dIxE (dV 0) de_int))) (da_cons (dMulE (dIxE (dV 0) de_int) (dIxE (dV 1) de_int)) da_nil)))))
theorem sc__law_multiply : FnScope ["_law_one", "_law_other"] ["_law_one", "_law_other"] (defScope s__law_multiply) := ⟨rfl, rfl, rfl, by decide +kernel, rfl, by decide +kernel, by decide +kernel⟩
theorem ok__law_multiply (T : Txt K mg cm tb) (G__law_reduce : CalD P w K mg base 1 "_law_reduce" s__law_reduce (d__law_reduce.dvs K) (d__law_reduce.kws K) (He.ga K "_law_reduce") ["_law_num", "_law_den"] (spD ⟨K, cm, tb⟩ m__law_reduce)) : CalD P w K mg base 2 "_law_multiply" s__law_multiply (d__law_multiply.dvs K) (d__law_multiply.kws K) (He.ga K "_law_multiply") ["_law_one", "_law_other"] (spD ⟨K, cm, tb⟩ m__law_multiply) := by
  obtain ⟨fd, F⟩ := T.F__law_multiply
  have sc := sc__law_multiply
  refine CalD.mk' (fn_spD F sc b__law_multiply (k := 1) (fun cdv A outer s H E A0 hr => ?_)) F
  have hu : (A.deeper (envOfC "_law_multiply" (defScope s__law_multiply) s.heap.objs.size (He.ga K "_law_multiply") cdv)).units + 65 < cLine := by
    have := hr.un
    omega
  have tk : L2N.Takes (cxOf (L2N.CX P w) P w K mg base ["_law_one", "_law_other"] "_law_multiply" (defScope s__law_multiply) (He.ga K "_law_multiply") cdv A outer s H E) (fun c dd _ H' => E c dd H') := L2N.takes_of rfl rfl rfl rfl
  have hp : PassesOwn (model P w) (A.deeper (envOfC "_law_multiply" (defScope s__law_multiply) s.heap.objs.size (He.ga K "_law_multiply") cdv)) (envOfC "_law_multiply" (defScope s__law_multiply) s.heap.objs.size (He.ga K "_law_multiply") cdv) (cxOf (L2N.CX P w) P w K mg base ["_law_one", "_law_other"] "_law_multiply" (defScope s__law_multiply) (He.ga K "_law_multiply") cdv A outer s H E).xe := passes_of rfl
  exact (dss_one (ds_ret [] (dCallE (G__law_reduce.cal bd__law_reduce) (hr.mono (by decide)) tk T.g__law_reduce T.k__law_reduce (da_cons (dMulE (dIxE (dV 0) de_int) (dIxE (dV 1) de_int)) (da_cons (dMulE (dIxE (dV 0) de_int) (dIxE (dV 1) de_int)) da_nil)))))
theorem sc__law_sum : FnScope ["_law_some", "_law_result", "_law_one"] ["_law_some"] (defScope s__law_sum) := ⟨rfl, rfl, rfl, by decide +kernel, rfl, by decide +kernel, by decide +kernel⟩
theorem ok__law_sum (T : Txt K mg cm tb) (G__law_add : CalD P w K mg base 2 "_law_add" s__law_add (d__law_add.dvs K) (d__law_add.kws K) (He.ga K "_law_add") ["_law_one", "_law_other"] (spD ⟨K, cm, tb⟩ m__law_add)) : CalD P w K mg base 3 "_law_sum" s__law_sum (d__law_sum.dvs K) (d__law_sum.kws K) (He.ga K "_law_sum") ["_law_some"] (spD ⟨K, cm, tb⟩ m__law_sum) := by
  obtain ⟨fd, F⟩ := T.F__law_sum
  have sc := sc__law_sum
  refine CalD.mk' (fn_spD F sc b__law_sum (k := 2) (fun cdv A outer s H E A0 hr => ?_)) F
  have hu : (A.deeper (envOfC "_law_sum" (defScope s__law_sum) s.heap.objs.size (He.ga K "_law_sum") cdv)).units + 65 < cLine := by
    have := hr.un
    omega
  have tk : L2N.Takes (cxOf (L2N.CX P w) P w K mg base ["_law_some", "_law_result", "_law_one"] "_law_sum" (defScope s__law_sum) (He.ga K "_law_sum") cdv A outer s H E) (fun c dd _ H' => E c dd H') := L2N.takes_of rfl rfl rfl rfl
  have hp : PassesOwn (model P w) (A.deeper (envOfC "_law_sum" (defScope s__law_sum) s.heap.objs.size (He.ga K "_law_sum") cdv)) (envOfC "_law_sum" (defScope s__law_sum) s.heap.objs.size (He.ga K "_law_sum") cdv) (cxOf (L2N.CX P w) P w K mg base ["_law_some", "_law_result", "_law_one"] "_law_sum" (defScope s__law_sum) (He.ga K "_law_sum") cdv A outer s H E).xe := passes_of rfl
  exact (dss_cons (ds_set (i := 1) (fun h => ps_set sc.nd rfl (by first | exact Or.inl rfl | exact Or.inr rfl) h) (dTupE (da_cons de_int (da_cons de_int da_nil))))
    (dss_cons (ds_for (fun h1 h2 h3 => ps_for hp rfl h1 h2 h3) (di_seq (dV 0)) (dNm 2 sc.nd) (dss_one (ds_set (i := 1) (fun h => ps_set sc.nd rfl (by first | exact Or.inl rfl | exact Or.inr rfl) h) (dCallE (G__law_add.cal bd__law_add) (hr.mono (by decide)) tk T.g__law_add T.k__law_add (da_cons (dV 1) (da_cons (dV 2) da_nil))))))
    (dss_one (ds_ret [] (dV 1)))))
theorem sc__law_small : FnScope ["_law_rng"] ["_law_rng"] (defScope s__law_small) := ⟨rfl, rfl, rfl, by decide +kernel, rfl, by decide +kernel, by decide +kernel⟩
theorem ok__law_small (T : Txt K mg cm tb) (G__law_choice : CalD P w K mg base 2 "_law_choice" s__law_choice (d__law_choice.dvs K) (d__law_choice.kws K) (He.ga K "_law_choice") ["_law_rng", "_law_some"] (spG ⟨K, cm, tb⟩ m__law_choice)) (G__law_draw : CalD P w K mg base 1 "_law_draw" s__law_draw (d__law_draw.dvs K) (d__law_draw.kws K) (He.ga K "_law_draw") ["_law_rng", "_law_quantity"] (spG ⟨K, cm, tb⟩ m__law_draw)) (G__law_reduce : CalD P w K mg base 1 "_law_reduce" s__law_reduce (d__law_reduce.dvs K) (d__law_reduce.kws K) (He.ga K "_law_reduce") ["_law_num", "_law_den"] (spD ⟨K, cm, tb⟩ m__law_reduce)) : CalD P w K mg base 3 "_law_small" s__law_small (d__law_small.dvs K) (d__law_small.kws K) (He.ga K "_law_small") ["_law_rng"] (spG ⟨K, cm, tb⟩ m__law_small) := by
  obtain ⟨fd, F⟩ := T.F__law_small
  have sc := sc__law_small
  refine CalD.mk' (fn_spG F sc b__law_small (k := 2) (fun cdv A outer s H E A0 r c hr => ?_)) F
  have hu : (A.deeper (envOfC "_law_small" (defScope s__law_small) s.heap.objs.size (He.ga K "_law_small") cdv)).units + 65 < cLine := by
    have := hr.un
    omega
  have tk : L2N.Takes (cxOf (L2N.CX P w) P w K mg base ["_law_rng"] "_law_small" (defScope s__law_small) (He.ga K "_law_small") cdv A outer s H E) (fun c dd _ H' => E c dd H') := L2N.takes_of rfl rfl rfl rfl
  have hp : PassesOwn (model P w) (A.deeper (envOfC "_law_small" (defScope s__law_small) s.heap.objs.size (He.ga K "_law_small") cdv)) (envOfC "_law_small" (defScope s__law_small) s.heap.objs.size (He.ga K "_law_small") cdv) (cxOf (L2N.CX P w) P w K mg base ["_law_rng"] "_law_small" (defScope s__law_small) (He.ga K "_law_small") cdv A outer s H E).xe := passes_of rfl
  exact (dss_one (ds_ret [] (dCallE (G__law_reduce.cal bd__law_reduce) (hr.mono (by decide)) tk T.g__law_reduce T.k__law_reduce (da_cons (dSubE (dCallG (i := 0) (G__law_draw.cal bd__law_draw) (hr.mono (by decide)) T.g__law_draw T.k__law_draw (pv 0) (da_cons de_int da_nil)) de_int) (da_cons (dCallG (i := 0) (G__law_choice.cal bd__law_choice) (hr.mono (by decide)) T.g__law_choice T.k__law_choice (pv 0) (da_cons (de_ofF (df_lst (fun h => pe_lst h) (da_cons de_int (da_cons de_int (da_cons de_int (da_cons de_int (da_cons de_int (da_cons de_int da_nil)))))))) da_nil)) da_nil)))))
theorem sc__law_linear_case : FnScope ["_law_rng", "_law_quantity", "_law_wide", "_law_rows", "_law_met", "_law_targets", "_law_amount", "_law_j", "_law_k", "_law_row", "_law_x", "_law_y"] ["_law_rng"] (defScope s__law_linear_case) := ⟨rfl, rfl, rfl, by decide +kernel, rfl, by decide +kernel, by decide +kernel⟩
theorem ok__law_linear_case (T : Txt K mg cm tb) (G__law_add : CalD P w K mg base 2 "_law_add" s__law_add (d__law_add.dvs K) (d__law_add.kws K) (He.ga K "_law_add") ["_law_one", "_law_other"] (spD ⟨K, cm, tb⟩ m__law_add)) (G__law_choice : CalD P w K mg base 2 "_law_choice" s__law_choice (d__law_choice.dvs K) (d__law_choice.kws K) (He.ga K "_law_choice") ["_law_rng", "_law_some"] (spG ⟨K, cm, tb⟩ m__law_choice)) (G__law_draw : CalD P w K mg base 1 "_law_draw" s__law_draw (d__law_draw.dvs K) (d__law_draw.kws K) (He.ga K "_law_draw") ["_law_rng", "_law_quantity"] (spG ⟨K, cm, tb⟩ m__law_draw)) (G__law_multiply : CalD P w K mg base 2 "_law_multiply" s__law_multiply (d__law_multiply.dvs K) (d__law_multiply.kws K) (He.ga K "_law_multiply") ["_law_one", "_law_other"] (spD ⟨K, cm, tb⟩ m__law_multiply)) (G__law_small : CalD P w K mg base 3 "_law_small" s__law_small (d__law_small.dvs K) (d__law_small.kws K) (He.ga K "_law_small") ["_law_rng"] (spG ⟨K, cm, tb⟩ m__law_small)) (G__law_sum : CalD P w K mg base 3 "_law_sum" s__law_sum (d__law_sum.dvs K) (d__law_sum.kws K) (He.ga K "_law_sum") ["_law_some"] (spD ⟨K, cm, tb⟩ m__law_sum)) : CalD P w K mg base 4 "_law_linear_case" s__law_linear_case (d__law_linear_case.dvs K) (d__law_linear_case.kws K) (He.ga K "_law_linear_case") ["_law_rng"] (spG ⟨K, cm, tb⟩ m__law_linear_case) := by
  obtain ⟨fd, F⟩ := T.F__law_linear_case
  have sc := sc__law_linear_case
  refine CalD.mk' (fn_spG F sc b__law_linear_case (k := 3) (fun cdv A outer s H E A0 r c hr => ?_)) F
  have hu : (A.deeper (envOfC "_law_linear_case" (defScope s__law_linear_case) s.heap.objs.size (He.ga K "_law_linear_case") cdv)).units + 65 < cLine := by
    have := hr.un
    omega
  have tk : L2N.Takes (cxOf (L2N.CX P w) P w K mg base ["_law_rng", "_law_quantity", "_law_wide", "_law_rows", "_law_met", "_law_targets", "_law_amount", "_law_j", "_law_k", "_law_row", "_law_x", "_law_y"] "_law_linear_case" (defScope s__law_linear_case) (He.ga K "_law_linear_case") cdv A outer s H E) (fun c dd _ H' => E c dd H') := L2N.takes_of rfl rfl rfl rfl
  have hp : PassesOwn (model P w) (A.deeper (envOfC "_law_linear_case" (defScope s__law_linear_case) s.heap.objs.size (He.ga K "_law_linear_case") cdv)) (envOfC "_law_linear_case" (defScope s__law_linear_case) s.heap.objs.size (He.ga K "_law_linear_case") cdv) (cxOf (L2N.CX P w) P w K mg base ["_law_rng", "_law_quantity", "_law_wide", "_law_rows", "_law_met", "_law_targets", "_law_amount", "_law_j", "_law_k", "_law_row", "_law_x", "_law_y"] "_law_linear_case" (defScope s__law_linear_case) (He.ga K "_law_linear_case") cdv A outer s H E).xe := passes_of rfl
  exact (dss_cons (ds_asgG (fun h hg => ps_asg h hg) (by exact (dTupE (da_cons (dAddE de_int (dCallG (i := 0) (G__law_draw.cal bd__law_draw) (hr.mono (by decide)) T.g__law_draw T.k__law_draw (pv 0) (da_cons de_int da_nil))) (da_cons (dAddE de_int (dCallG (i := 0) (G__law_draw.cal bd__law_draw) (hr.mono (by decide)) T.g__law_draw T.k__law_draw (pv 0) (da_cons de_int da_nil))) da_nil)))) (dg_tup (fun h => pg_tup rfl h) (dgs_cons (dNm 1 sc.nd) (dgs_cons (dNm 2 sc.nd) dgs_nil))))
    (dss_cons (dSetLcF (i := 3) (own := [("_law_j", 7)]) (vs := [7]) sc.nd (blkOk_by (own := [("_law_j", 7)]) (N := ["_law_rng", "_law_quantity", "_law_wide", "_law_rows", "_law_met", "_law_targets", "_law_amount", "_law_j", "_law_k", "_law_row", "_law_x", "_law_y"]) (sc := defScope s__law_linear_case) (by decide +kernel)) (di_range1 rfl T.n_range (da_cons (dV 1) da_nil) (by rfl) alen1) (by decide) (fun _ _ _ _ _ => (dNm 7 sc.nd)) (fun _ _ _ _ _ => dts_nil) (fun _ _ _ _ _ => (by exact de_ofF (dLcE (own := [("_law_k", 8)]) (vs := [8]) sc.nd (blkOk_by (own := [("_law_k", 8)]) (N := ["_law_rng", "_law_quantity", "_law_wide", "_law_rows", "_law_met", "_law_targets", "_law_amount", "_law_j", "_law_k", "_law_row", "_law_x", "_law_y"]) (sc := relS _ (defScope s__law_linear_case)) (by decide +kernel)) (di_range1 rfl T.n_range (da_cons (dV 2) da_nil) (by rfl) alen1) (by decide) (fun _ _ _ _ _ => (dNm 8 sc.nd)) (fun _ _ _ _ _ => dts_nil) (fun _ _ _ _ _ => (dCallG (i := 0) (G__law_choice.cal bd__law_choice) (hr.mono (by decide)) T.g__law_choice T.k__law_choice (pv 0) (da_cons (de_ofF (df_lst (fun h => pe_lst h) (da_cons (dTupE (da_cons de_int (da_cons de_int da_nil))) (da_cons (dCallG (i := 0) (G__law_small.cal bd__law_small) (hr.mono (by decide)) T.g__law_small T.k__law_small (pv 0) da_nil) da_nil)))) da_nil)))))))
    (dss_cons (ds_if (DW.pt (dw_and (dGtT (dV 1) de_int) (dw_and1 (dEqT (dCallG (i := 0) (G__law_draw.cal bd__law_draw) (hr.mono (by decide)) T.g__law_draw T.k__law_draw (pv 0) (da_cons de_int da_nil)) de_int hu)))) (dss_cons (ds_set (i := 6) (fun h => ps_set sc.nd rfl (by first | exact Or.inl rfl | exact Or.inr rfl) h) (dCallG (i := 0) (G__law_small.cal bd__law_small) (hr.mono (by decide)) T.g__law_small T.k__law_small (pv 0) da_nil))
    (dss_one (ds_setI (i := 3) (fun h hk => ps_asg h (pg_sub (pv 3) hk set_list)) (by exact de_ofF (df_bor [3] (dLcE (own := [("_law_x", 10), ("_law_y", 11)]) (vs := [10, 11]) sc.nd (blkOk_by (own := [("_law_x", 10), ("_law_y", 11)]) (N := ["_law_rng", "_law_quantity", "_law_wide", "_law_rows", "_law_met", "_law_targets", "_law_amount", "_law_j", "_law_k", "_law_row", "_law_x", "_law_y"]) (sc := defScope s__law_linear_case) (by decide +kernel)) (di_zip (fun h => RZ.pi_zipA rfl T.n_zip h) (da_cons (dIxE (dV 3) de_int) (da_cons (dIxE (dV 3) (dSubE (dV 1) de_int)) da_nil))) (by decide) (fun _ _ _ _ _ => (dg_tup (fun h => pg_tup rfl h) (dgs_cons (dNm 10 sc.nd) (dgs_cons (dNm 11 sc.nd) dgs_nil)))) (fun _ _ _ _ _ => dts_nil) (fun _ _ _ _ _ => (dCallE (G__law_add.cal bd__law_add) (hr.mono (by decide)) takes0N T.g__law_add T.k__law_add (da_cons (dV 10) (da_cons (dCallE (G__law_multiply.cal bd__law_multiply) (hr.mono (by decide)) takes0N T.g__law_multiply T.k__law_multiply (da_cons (dV 6) (da_cons (dV 11) da_nil))) da_nil))))))) (dCallG (i := 0) (G__law_draw.cal bd__law_draw) (hr.mono (by decide)) T.g__law_draw T.k__law_draw (pv 0) (da_cons (dV 1) da_nil))))) dss_nil)
    (dss_cons (ds_set (i := 4) (fun h => ps_set sc.nd rfl (by first | exact Or.inl rfl | exact Or.inr rfl) h) (by exact de_ofF (dLcE (own := [("_law_k", 8)]) (vs := [8]) sc.nd (blkOk_by (own := [("_law_k", 8)]) (N := ["_law_rng", "_law_quantity", "_law_wide", "_law_rows", "_law_met", "_law_targets", "_law_amount", "_law_j", "_law_k", "_law_row", "_law_x", "_law_y"]) (sc := defScope s__law_linear_case) (by decide +kernel)) (di_range1 rfl T.n_range (da_cons (dV 2) da_nil) (by rfl) alen1) (by decide) (fun _ _ _ _ _ => (dNm 8 sc.nd)) (fun _ _ _ _ _ => dts_nil) (fun _ _ _ _ _ => (dCallG (i := 0) (G__law_small.cal bd__law_small) (hr.mono (by decide)) T.g__law_small T.k__law_small (pv 0) da_nil)))))
    (dss_cons (ds_frz [3] (dSetLcF (i := 5) (own := [("_law_row", 9)]) (vs := [9]) sc.nd (blkOk_by (own := [("_law_row", 9)]) (N := ["_law_rng", "_law_quantity", "_law_wide", "_law_rows", "_law_met", "_law_targets", "_law_amount", "_law_j", "_law_k", "_law_row", "_law_x", "_law_y"]) (sc := defScope s__law_linear_case) (by decide +kernel)) (di_seq (dV 3)) (by decide) (fun _ _ _ _ _ => (dNm 9 sc.nd)) (fun _ _ _ _ _ => dts_nil) (fun _ _ _ _ _ => (dCallE (G__law_sum.cal bd__law_sum) (hr.mono (by decide)) takes0N T.g__law_sum T.k__law_sum (da_cons (by exact de_ofF (dLcE (own := [("_law_x", 10), ("_law_y", 11)]) (vs := [10, 11]) sc.nd (blkOk_by (own := [("_law_x", 10), ("_law_y", 11)]) (N := ["_law_rng", "_law_quantity", "_law_wide", "_law_rows", "_law_met", "_law_targets", "_law_amount", "_law_j", "_law_k", "_law_row", "_law_x", "_law_y"]) (sc := relS _ (defScope s__law_linear_case)) (by decide +kernel)) (di_zip (fun h => RZ.pi_zipA rfl T.n_zip h) (da_cons (dV 9) (da_cons (dV 4) da_nil))) (by decide) (fun _ _ _ _ _ => (dg_tup (fun h => pg_tup rfl h) (dgs_cons (dNm 10 sc.nd) (dgs_cons (dNm 11 sc.nd) dgs_nil)))) (fun _ _ _ _ _ => dts_nil) (fun _ _ _ _ _ => (dCallE (G__law_multiply.cal bd__law_multiply) (hr.mono (by decide)) takes0N T.g__law_multiply T.k__law_multiply (da_cons (dV 10) (da_cons (dV 11) da_nil)))))) da_nil)))))
    (dss_cons (ds_if (dEqT (dCallG (i := 0) (G__law_draw.cal bd__law_draw) (hr.mono (by decide)) T.g__law_draw T.k__law_draw (pv 0) (da_cons de_int da_nil)) de_int hu) (dss_one (ds_setI (i := 5) (fun h hk => ps_asg h (pg_sub (pv 5) hk set_list)) (dCallG (i := 0) (G__law_small.cal bd__law_small) (hr.mono (by decide)) T.g__law_small T.k__law_small (pv 0) da_nil) (dCallG (i := 0) (G__law_draw.cal bd__law_draw) (hr.mono (by decide)) T.g__law_draw T.k__law_draw (pv 0) (da_cons (dV 1) da_nil)))) dss_nil)
    (dss_one (ds_ret [5] (dTupE (da_cons (dV 3) (da_cons (dV 5) da_nil)))))))))))
theorem sc_law : FnScope ["_law_script", "_law_rng", "_law_turn", "_law_rows", "_law_targets", "_law_pos", "_law_pick", "_law_expected", "_law_result"] ["_law_script"] (defScope s_law) := ⟨rfl, rfl, rfl, by decide +kernel, rfl, by decide +kernel, by decide +kernel⟩
theorem ok_law (T : Txt K mg cm tb) (GS : Cal P w K mg base 1 (He.ga K "_law_source") ["_law_script"] (spSrc K)) {fd : FuncData} (G__law_choice : CalD P w K mg base 2 "_law_choice" s__law_choice (d__law_choice.dvs K) (d__law_choice.kws K) (He.ga K "_law_choice") ["_law_rng", "_law_some"] (spG ⟨K, cm, tb⟩ m__law_choice)) (G__law_draw : CalD P w K mg base 1 "_law_draw" s__law_draw (d__law_draw.dvs K) (d__law_draw.kws K) (He.ga K "_law_draw") ["_law_rng", "_law_quantity"] (spG ⟨K, cm, tb⟩ m__law_draw)) (G__law_equal : CalD P w K mg base 13 "_law_equal" s__law_equal (d__law_equal.dvs K) (d__law_equal.kws K) (He.ga K "_law_equal") ["_law_result", "_law_expected"] (spD ⟨K, cm, tb⟩ (m__law_equal 12))) (G__law_linear_case : CalD P w K mg base 4 "_law_linear_case" s__law_linear_case (d__law_linear_case.dvs K) (d__law_linear_case.kws K) (He.ga K "_law_linear_case") ["_law_rng"] (spG ⟨K, cm, tb⟩ m__law_linear_case)) (G_check_solution : CalD P w K mg base 5 "check_solution" s_check_solution (d_check_solution.dvs K) (d_check_solution.kws K) (He.ga K "check_solution") ["rows", "targets", "answer"] (spD ⟨K, cm, tb⟩ m_check_solution)) (G_solve_linear : CalD P w K mg base 6 "solve_linear" s_solve_linear (d_solve_linear.dvs K) (d_solve_linear.kws K) (He.ga K "solve_linear") ["rows", "targets"] (spD ⟨K, cm, tb⟩ m_solve_linear)) (G__law_error_field : ∃ fd, FnE P w K mg base 1 (He.ga K "_law_error_field") fd ["_law_e"] (spE ⟨K, cm, tb⟩ m__law_error_field) ∧ L2.Binds K fd ["_law_e"] []) {cC PT : Addr} (TB : LamX.TabB base mg cC PT) (hcC : fd.code = .ref cC) (htb : tb = [(PT, ("law.<locals>.<lambda>" : Str))]) (hb : ∀ g : Rng, g.Ok → ∃ g', b_law (envL 9) g = .ok (.rt (.bl true) g')) (F : FunD K "law" "law" (defArgs s_law) (defBody s_law) (defScope s_law) (d_law.dvs K) (d_law.kws K) (He.ga K "law") fd) : FnOk P w K mg base (L2N.CX P w) 14 (He.ga K "law") fd ["_law_script"] (spLaw K tb) := by
  have sc := sc_law
  subst htb
  obtain ⟨fd_out, F_out⟩ := T.F__law_outcome
  obtain ⟨fd_err, F_err⟩ := T.F__law_error
  obtain ⟨fdS, GS, bS⟩ := GS
  refine fn_law (cm := cm) (tb := _) (k := 13) F sc b_law (by decide) rfl (fun cdv A outer s H E hr => ps_set (i := 1) sc.nd rfl (by first | exact Or.inl rfl | exact Or.inr rfl) (pe_call GS (hr.mono (by decide)) rfl T.g__law_source T.k__law_source bS .nil passN (pa_cons (pv 0) pa_nil))) (fun cdv A outer s H E H1 r c hcd hr => ?_) hb
  have hu : (A.deeper (envOfC "law" (defScope s_law) s.heap.objs.size (He.ga K "law") cdv)).units + 65 < cLine := by
    have := hr.un
    omega
  have tk : L2N.Takes (cxOf (L2N.CX P w) P w K mg base ["_law_script", "_law_rng", "_law_turn", "_law_rows", "_law_targets", "_law_pos", "_law_pick", "_law_expected", "_law_result"] "law" (defScope s_law) (He.ga K "law") cdv A outer s H E) (fun c dd _ H' => E c dd H') := L2N.takes_of rfl rfl rfl rfl
  have hp : PassesOwn (model P w) (A.deeper (envOfC "law" (defScope s_law) s.heap.objs.size (He.ga K "law") cdv)) (envOfC "law" (defScope s_law) s.heap.objs.size (He.ga K "law") cdv) (cxOf (L2N.CX P w) P w K mg base ["_law_script", "_law_rng", "_law_turn", "_law_rows", "_law_targets", "_law_pos", "_law_pick", "_law_expected", "_law_result"] "law" (defScope s_law) (He.ga K "law") cdv A outer s H E).xe := passes_of rfl
  exact (dss_cons (ds_for (fun h1 h2 h3 => ps_for hp rfl h1 h2 h3) (di_range1 rfl T.n_range (da_cons de_int da_nil) (by rfl) alen1) (dNm 2 sc.nd) (dss_cons (ds_asgG (fun h hg => ps_asg h hg) (by exact (dCallG (i := 1) (G__law_linear_case.cal bd__law_linear_case) (hr.mono (by decide)) T.g__law_linear_case T.k__law_linear_case (pv 1) da_nil)) (dg_tup (fun h => pg_tup rfl h) (dgs_cons (dNm 3 sc.nd) (dgs_cons (dNm 4 sc.nd) dgs_nil))))
    (dss_cons (ds_par3 (fun h => ps_par3 (i := 5) (j := 6) (l := 7) rfl sc.nd rfl rfl rfl (by decide) (by decide) (by decide) rfl rfl rfl h (by rfl)) (da_cons (dCallG (i := 1) (G__law_draw.cal bd__law_draw) (hr.mono (by decide)) T.g__law_draw T.k__law_draw (pv 1) (da_cons (dLenE T.n_len (da_cons (dV 3) da_nil)) da_nil)) (da_cons (dCallG (i := 1) (G__law_draw.cal bd__law_draw) (hr.mono (by decide)) T.g__law_draw T.k__law_draw (pv 1) (da_cons de_int da_nil)) (da_cons (dTupE (da_cons de_str (da_cons de_non da_nil))) da_nil))))
    (dss_cons (ds_if (dGtT (dV 6) de_int) (dss_one (ds_asgG (fun h hg => ps_asg h hg) (by exact (dTupE (da_cons (dCallG (i := 1) (G__law_choice.cal bd__law_choice) (hr.mono (by decide)) T.g__law_choice T.k__law_choice (pv 1) (da_cons (de_ofF (df_lst (fun h => pe_lst h) (da_cons (dSlE (dV 4) (dp_at de_int) dp_no) (da_cons (dAddE (dV 4) (de_ofF (df_lst (fun h => pe_lst h) (da_cons (dTupE (da_cons de_int (da_cons de_int da_nil))) da_nil)))) da_nil)))) da_nil)) (da_cons (dTupE (da_cons de_str (da_cons (dLenE T.n_len (da_cons (dV 3) da_nil)) da_nil))) da_nil)))) (dg_tup (fun h => pg_tup rfl h) (dgs_cons (dNm 4 sc.nd) (dgs_cons (dNm 7 sc.nd) dgs_nil))))) dss_nil)
    (dss_cons (ds_if (DW.pt (dw_and (dLtT (dV 6) de_int) (dw_and1 (dGtT (dV 5) de_int)))) (dss_one (ds_asgG (fun h hg => ps_asg h hg) (by exact (dTupE (da_cons (dAddE (dAddE (dSlE (dV 3) dp_no (dp_at (dV 5))) (de_ofF (df_lst (fun h => pe_lst h) (da_cons (dCallG (i := 1) (G__law_choice.cal bd__law_choice) (hr.mono (by decide)) T.g__law_choice T.k__law_choice (pv 1) (da_cons (de_ofF (df_lst (fun h => pe_lst h) (da_cons (dSlE (dIxE (dV 3) (dV 5)) (dp_at de_int) dp_no) (da_cons (dAddE (dIxE (dV 3) (dV 5)) (de_ofF (df_lst (fun h => pe_lst h) (da_cons (dTupE (da_cons de_int (da_cons de_int da_nil))) da_nil)))) da_nil)))) da_nil)) da_nil)))) (dSlE (dV 3) (dp_at (dAddE (dV 5) de_int)) dp_no)) (da_cons (dTupE (da_cons de_str (da_cons (dV 5) da_nil))) da_nil)))) (dg_tup (fun h => pg_tup rfl h) (dgs_cons (dNm 3 sc.nd) (dgs_cons (dNm 7 sc.nd) dgs_nil))))) dss_nil)
    (dss_cons (ds_if (dEqT (dIxE (dV 7) de_int) de_str hu) (dss_one ds_continue) dss_nil)
    (dss_cons (ds_set (i := 8) (fun h => ps_set sc.nd rfl (by first | exact Or.inl rfl | exact Or.inr rfl) h) (de_ofF (df_lst (fun h => pe_lst h) (da_cons (de_err (k := 6) (q := ("law.<locals>.<lambda>" : Str)) T.g__law_error F_err (bd__law_error _ F_err) sc__law_error rfl (by first | exact Or.inl rfl | exact Or.inr (Or.inl rfl)) rfl T.g__law_outcome F_out (bd__law_outcome _ F_out) sc__law_outcome rfl (by first | exact Or.inl rfl | exact Or.inr (Or.inl rfl)) (fun cdg _ _ _ => out_gives T.g__law_error_field T.k__law_error_field G__law_error_field T.g_GaitError T.g_NotFound T.g_ZeroDenominator T.g_EmptyHistory T.o_1 T.o_2 cdg) TB (hcd.symm.trans hcC) (by show (_ : Str) = ("law.<locals>." : Str) ++ ("<lambda>" : Str); decide) rfl (hr.mono (by decide)) (fun A outer s H E f c' H0 A0 hr => have hu := roomU hr; (dCallE (G_solve_linear.cal bd_solve_linear) (hr.mono (by decide)) lam_tk T.g_solve_linear T.k_solve_linear (da_cons (dV 3) (da_cons (dV 4) da_nil)))) (LamX.lamS_by (sc := defScope s_law) (by decide +kernel))) (da_cons (de_errD (y0 := "_law_a") (k := 6) (q := ("law.<locals>.<lambda>" : Str)) T.g__law_error F_err (bd__law_error _ F_err) sc__law_error rfl (by first | exact Or.inl rfl | exact Or.inr (Or.inl rfl)) rfl T.g__law_outcome F_out (bd__law_outcome _ F_out) sc__law_outcome rfl (by first | exact Or.inl rfl | exact Or.inr (Or.inl rfl)) (fun cdg _ _ _ => out_gives T.g__law_error_field T.k__law_error_field G__law_error_field T.g_GaitError T.g_NotFound T.g_ZeroDenominator T.g_EmptyHistory T.o_1 T.o_2 cdg) TB (hcd.symm.trans hcC) (by show (_ : Str) = ("law.<locals>." : Str) ++ ("<lambda>" : Str); decide) rfl (hr.mono (by decide)) (fun A outer s H E f c' H0 A0 hr => have hu := roomU hr; (dCallE (G_check_solution.cal bd_check_solution) (hr.mono (by decide)) lam_tk T.g_check_solution T.k_check_solution (da_cons (dV 3) (da_cons (dV 4) (da_cons (dTupE (da_cons de_str (da_cons (de_ofF (df_lst (fun h => pe_lst h) da_nil)) da_nil))) da_nil))))) (lamD_by (sc := defScope s_law) (N := ["_law_script", "_law_rng", "_law_turn", "_law_rows", "_law_targets", "_law_pos", "_law_pick", "_law_expected", "_law_result"]) (y := "_law_a") (by decide +kernel))) da_nil)))))
    (dss_one (ds_if (dt_not (dt_val (dCallE (G__law_equal.cal bd__law_equal) (hr.mono (by decide)) tk T.g__law_equal T.k__law_equal (da_cons (dV 8) (da_cons (de_ofF (df_lst (fun h => pe_lst h) (da_cons (dV 7) (da_cons (dV 7) da_nil)))) da_nil))))) (dss_one (ds_ret [] de_bl)) dss_nil)))))))))
    (dss_one (ds_ret [] de_bl)))
end
theorem law_at {l : PySem.W.OpenLaw} {w : World} {mg : Str → Option Value} {fa0 : Addr} {h : Heap} (Y : hk.says w h) (G : h.Ns mainGlobals mg) (hfa : mg "law" = some (.ref fa0)) : ∃ K : PySem.W.Frag, K.In h ∧ LamX.LawAtS l w K (L2N.CX l.prog w) 14 63 "_law_script" mg fa0 h := by
  obtain ⟨K, KX, c⟩ := Y
  have e := hfa.symm.trans (He.glo_ok KX G (c.t.d.fact 27 (f := .glo "law") rfl))
  cases e
  have r_ZERO : ∀ H A, Rep ⟨K, (cmX K exns), [((He.cT K ("law", none)).2, ("law.<locals>.<lambda>" : Str))]⟩ H A k_ZERO (.ref (He.ga K "ZERO")) := rep_tupB (ex_at c.more 0) fun _ _ => .cons (.int_ _) (.cons (.int_ _) (.nil))
  have r_ONE : ∀ H A, Rep ⟨K, (cmX K exns), [((He.cT K ("law", none)).2, ("law.<locals>.<lambda>" : Str))]⟩ H A k_ONE (.ref (He.ga K "ONE")) := rep_tupB (ex_at c.more 1) fun _ _ => .cons (.int_ _) (.cons (.int_ _) (.nil))
  have T : Txt K mg (cmX K exns) [((He.cT K ("law", none)).2, ("law.<locals>.<lambda>" : Str))] := {
    g_gcd := He.glo_ok KX G (c.t.d.fact 0 (f := .glo "gcd") rfl), k_gcd := (c.t.d.def_ 0 (d := d_gcd) rfl).elim fun _ F => F.kp, F_gcd := c.t.d.def_ 0 (d := d_gcd) rfl,
    g_fraction := He.glo_ok KX G (c.t.d.fact 1 (f := .glo "fraction") rfl), k_fraction := (c.t.d.def_ 1 (d := d_fraction) rfl).elim fun _ F => F.kp, F_fraction := c.t.d.def_ 1 (d := d_fraction) rfl,
    g_add := He.glo_ok KX G (c.t.d.fact 2 (f := .glo "add") rfl), k_add := (c.t.d.def_ 2 (d := d_add) rfl).elim fun _ F => F.kp, F_add := c.t.d.def_ 2 (d := d_add) rfl,
    g_subtract := He.glo_ok KX G (c.t.d.fact 3 (f := .glo "subtract") rfl), k_subtract := (c.t.d.def_ 3 (d := d_subtract) rfl).elim fun _ F => F.kp, F_subtract := c.t.d.def_ 3 (d := d_subtract) rfl,
    g_multiply := He.glo_ok KX G (c.t.d.fact 4 (f := .glo "multiply") rfl), k_multiply := (c.t.d.def_ 4 (d := d_multiply) rfl).elim fun _ F => F.kp, F_multiply := c.t.d.def_ 4 (d := d_multiply) rfl,
    g_divide := He.glo_ok KX G (c.t.d.fact 5 (f := .glo "divide") rfl), k_divide := (c.t.d.def_ 5 (d := d_divide) rfl).elim fun _ F => F.kp, F_divide := c.t.d.def_ 5 (d := d_divide) rfl,
    g_total := He.glo_ok KX G (c.t.d.fact 6 (f := .glo "total") rfl), k_total := (c.t.d.def_ 6 (d := d_total) rfl).elim fun _ F => F.kp, F_total := c.t.d.def_ 6 (d := d_total) rfl,
    g_check_shape := He.glo_ok KX G (c.t.d.fact 7 (f := .glo "check_shape") rfl), k_check_shape := (c.t.d.def_ 7 (d := d_check_shape) rfl).elim fun _ F => F.kp, F_check_shape := c.t.d.def_ 7 (d := d_check_shape) rfl,
    g_subtract_multiple := He.glo_ok KX G (c.t.d.fact 8 (f := .glo "subtract_multiple") rfl), k_subtract_multiple := (c.t.d.def_ 8 (d := d_subtract_multiple) rfl).elim fun _ F => F.kp, F_subtract_multiple := c.t.d.def_ 8 (d := d_subtract_multiple) rfl,
    g_scaled := He.glo_ok KX G (c.t.d.fact 9 (f := .glo "scaled") rfl), k_scaled := (c.t.d.def_ 9 (d := d_scaled) rfl).elim fun _ F => F.kp, F_scaled := c.t.d.def_ 9 (d := d_scaled) rfl,
    g_pivot := He.glo_ok KX G (c.t.d.fact 10 (f := .glo "pivot") rfl), k_pivot := (c.t.d.def_ 10 (d := d_pivot) rfl).elim fun _ F => F.kp, F_pivot := c.t.d.def_ 10 (d := d_pivot) rfl,
    g_unit_row := He.glo_ok KX G (c.t.d.fact 11 (f := .glo "unit_row") rfl), k_unit_row := (c.t.d.def_ 11 (d := d_unit_row) rfl).elim fun _ F => F.kp, F_unit_row := c.t.d.def_ 11 (d := d_unit_row) rfl,
    g_solve_linear := He.glo_ok KX G (c.t.d.fact 12 (f := .glo "solve_linear") rfl), k_solve_linear := (c.t.d.def_ 12 (d := d_solve_linear) rfl).elim fun _ F => F.kp, F_solve_linear := c.t.d.def_ 12 (d := d_solve_linear) rfl,
    g_check_solution := He.glo_ok KX G (c.t.d.fact 13 (f := .glo "check_solution") rfl), k_check_solution := (c.t.d.def_ 13 (d := d_check_solution) rfl).elim fun _ F => F.kp, F_check_solution := c.t.d.def_ 13 (d := d_check_solution) rfl,
    g__law_source := He.glo_ok KX G (c.t.d.fact 14 (f := .glo "_law_source") rfl), k__law_source := (c.t.d.def_ 14 (d := d__law_source) rfl).elim fun _ F => F.kp, F__law_source := c.t.d.def_ 14 (d := d__law_source) rfl,
    g__law_draw := He.glo_ok KX G (c.t.d.fact 15 (f := .glo "_law_draw") rfl), k__law_draw := (c.t.d.def_ 15 (d := d__law_draw) rfl).elim fun _ F => F.kp, F__law_draw := c.t.d.def_ 15 (d := d__law_draw) rfl,
    g__law_choice := He.glo_ok KX G (c.t.d.fact 16 (f := .glo "_law_choice") rfl), k__law_choice := (c.t.d.def_ 16 (d := d__law_choice) rfl).elim fun _ F => F.kp, F__law_choice := c.t.d.def_ 16 (d := d__law_choice) rfl,
    g__law_equal := He.glo_ok KX G (c.t.d.fact 17 (f := .glo "_law_equal") rfl), k__law_equal := (c.t.d.def_ 17 (d := d__law_equal) rfl).elim fun _ F => F.kp, F__law_equal := c.t.d.def_ 17 (d := d__law_equal) rfl,
    g__law_error_field := He.glo_ok KX G (c.t.d.fact 18 (f := .glo "_law_error_field") rfl), k__law_error_field := (c.t.d.def_ 18 (d := d__law_error_field) rfl).elim fun _ F => F.kp, F__law_error_field := c.t.d.def_ 18 (d := d__law_error_field) rfl,
    g__law_outcome := He.glo_ok KX G (c.t.d.fact 19 (f := .glo "_law_outcome") rfl), k__law_outcome := (c.t.d.def_ 19 (d := d__law_outcome) rfl).elim fun _ F => F.kp, F__law_outcome := c.t.d.def_ 19 (d := d__law_outcome) rfl,
    g__law_error := He.glo_ok KX G (c.t.d.fact 20 (f := .glo "_law_error") rfl), k__law_error := (c.t.d.def_ 20 (d := d__law_error) rfl).elim fun _ F => F.kp, F__law_error := c.t.d.def_ 20 (d := d__law_error) rfl,
    g__law_reduce := He.glo_ok KX G (c.t.d.fact 21 (f := .glo "_law_reduce") rfl), k__law_reduce := (c.t.d.def_ 21 (d := d__law_reduce) rfl).elim fun _ F => F.kp, F__law_reduce := c.t.d.def_ 21 (d := d__law_reduce) rfl,
    g__law_add := He.glo_ok KX G (c.t.d.fact 22 (f := .glo "_law_add") rfl), k__law_add := (c.t.d.def_ 22 (d := d__law_add) rfl).elim fun _ F => F.kp, F__law_add := c.t.d.def_ 22 (d := d__law_add) rfl,
    g__law_multiply := He.glo_ok KX G (c.t.d.fact 23 (f := .glo "_law_multiply") rfl), k__law_multiply := (c.t.d.def_ 23 (d := d__law_multiply) rfl).elim fun _ F => F.kp, F__law_multiply := c.t.d.def_ 23 (d := d__law_multiply) rfl,
    g__law_sum := He.glo_ok KX G (c.t.d.fact 24 (f := .glo "_law_sum") rfl), k__law_sum := (c.t.d.def_ 24 (d := d__law_sum) rfl).elim fun _ F => F.kp, F__law_sum := c.t.d.def_ 24 (d := d__law_sum) rfl,
    g__law_small := He.glo_ok KX G (c.t.d.fact 25 (f := .glo "_law_small") rfl), k__law_small := (c.t.d.def_ 25 (d := d__law_small) rfl).elim fun _ F => F.kp, F__law_small := c.t.d.def_ 25 (d := d__law_small) rfl,
    g__law_linear_case := He.glo_ok KX G (c.t.d.fact 26 (f := .glo "_law_linear_case") rfl), k__law_linear_case := (c.t.d.def_ 26 (d := d__law_linear_case) rfl).elim fun _ F => F.kp, F__law_linear_case := c.t.d.def_ 26 (d := d__law_linear_case) rfl,
    g_law := He.glo_ok KX G (c.t.d.fact 27 (f := .glo "law") rfl), k_law := (c.t.d.def_ 27 (d := d_law) rfl).elim fun _ F => F.kp, F_law := c.t.d.def_ 27 (d := d_law) rfl,
    n_abs := He.free_ok KX G (c.t.d.fact 28 (f := .free "abs") rfl),
    n_all := He.free_ok KX G (c.t.d.fact 29 (f := .free "all") rfl),
    n_bool := He.free_ok KX G (c.t.d.fact 30 (f := .free "bool") rfl),
    n_enumerate := He.free_ok KX G (c.t.d.fact 31 (f := .free "enumerate") rfl),
    n_int := He.free_ok KX G (c.t.d.fact 32 (f := .free "int") rfl),
    n_isinstance := He.free_ok KX G (c.t.d.fact 33 (f := .free "isinstance") rfl),
    n_len := He.free_ok KX G (c.t.d.fact 34 (f := .free "len") rfl),
    n_list := He.free_ok KX G (c.t.d.fact 35 (f := .free "list") rfl),
    n_range := He.free_ok KX G (c.t.d.fact 36 (f := .free "range") rfl),
    n_str := He.free_ok KX G (c.t.d.fact 37 (f := .free "str") rfl),
    n_tuple := He.free_ok KX G (c.t.d.fact 38 (f := .free "tuple") rfl),
    n_zip := He.free_ok KX G (c.t.d.fact 39 (f := .free "zip") rfl),
    g_ZERO := He.glo_ok KX G (c.t.d.fact 40 (f := .glo "ZERO") rfl), r_ZERO := r_ZERO,
    g_ONE := He.glo_ok KX G (c.t.d.fact 41 (f := .glo "ONE") rfl), r_ONE := r_ONE,
    g_EmptyHistory := He.glo_ok KX G (c.t.d.fact 42 (f := .glo "EmptyHistory") rfl),
    g_GaitError := He.glo_ok KX G (c.t.d.fact 43 (f := .glo "GaitError") rfl),
    g_InvalidShape := He.glo_ok KX G (c.t.d.fact 44 (f := .glo "InvalidShape") rfl),
    g_NotFound := He.glo_ok KX G (c.t.d.fact 45 (f := .glo "NotFound") rfl),
    g_ZeroDenominator := He.glo_ok KX G (c.t.d.fact 46 (f := .glo "ZeroDenominator") rfl),
    x_InvalidShape := (xcB_ok (b := .ve) (fs := ["tag", "pos"]) (ex_at c.more 2) List.mem_cons_self).1, m_InvalidShape := cmX_at, i_InvalidShape := c.t.d.def_ 28 (d := d_InvalidShape) rfl,
    t_InvalidShape := ((xcB_ok (b := .ve) (fs := ["tag", "pos"]) (ex_at c.more 2) List.mem_cons_self).2 _ (List.mem_cons_of_mem _ List.mem_cons_self)).1, f_InvalidShape := ((xcB_ok (b := .ve) (fs := ["tag", "pos"]) (ex_at c.more 2) List.mem_cons_self).2 _ (List.mem_cons_of_mem _ List.mem_cons_self)).2,
    o_1 := selB_ok (ns := exns) (cs := ["GaitError", "NotFound"]) (sel := sel1) (ex_at c.more 3), o_2 := selB_ok (ns := exns) (cs := ["ZeroDenominator", "EmptyHistory"]) (sel := sel2) (ex_at c.more 4) }
  obtain ⟨fd, F⟩ := T.F_law
  refine ⟨K, KX, law_endT (st := s_law) (q := ("law.<locals>.<lambda>" : Str)) F (c.empty _ (List.mem_singleton.mpr rfl)) (c.out _ (List.mem_singleton.mpr rfl)) (PySem.W.codeHd_of_K KX (c.hd _ (List.mem_singleton.mpr rfl))) (fun _ _ _ _ _ _ us hl => match us, hl with | [_], _ => rfl) fun base kb nb TB => ?_⟩
  have G__law_source : Cal l.prog w K mg base 1 (He.ga K "_law_source") ["_law_script"] (spSrc K) := ok__law_source T
  have G_InvalidShape := ok_InvalidShape (P := l.prog) (w := w) (base := base) T
  have G_gcd := ok_gcd (P := l.prog) (w := w) (base := base) T
  have G_fraction := ok_fraction (P := l.prog) (w := w) (base := base) T G_gcd
  have G_add := ok_add (P := l.prog) (w := w) (base := base) T G_fraction
  have G_subtract := ok_subtract (P := l.prog) (w := w) (base := base) T G_fraction
  have G_multiply := ok_multiply (P := l.prog) (w := w) (base := base) T G_fraction
  have G_divide := ok_divide (P := l.prog) (w := w) (base := base) T G_fraction
  have G_total := ok_total (P := l.prog) (w := w) (base := base) T G_add
  have G_check_shape := ok_check_shape (P := l.prog) (w := w) (base := base) T G_InvalidShape
  have G_subtract_multiple := ok_subtract_multiple (P := l.prog) (w := w) (base := base) T G_multiply G_subtract
  have G_scaled := ok_scaled (P := l.prog) (w := w) (base := base) T G_divide
  have G_pivot := ok_pivot (P := l.prog) (w := w) (base := base) T G_scaled G_subtract_multiple
  have G_unit_row := ok_unit_row (P := l.prog) (w := w) (base := base) T
  have G_solve_linear := ok_solve_linear (P := l.prog) (w := w) (base := base) T G_check_shape
  have G_check_solution := ok_check_solution (P := l.prog) (w := w) (base := base) T G_check_shape
  have G__law_draw := ok__law_draw (P := l.prog) (w := w) (base := base) T
  have G__law_choice := ok__law_choice (P := l.prog) (w := w) (base := base) T G__law_draw
  have G__law_equal := ok__law_equal (P := l.prog) (w := w) (base := base) T
  have G__law_error_field := ok__law_error_field (P := l.prog) (w := w) (base := base) T
  have G__law_reduce := ok__law_reduce (P := l.prog) (w := w) (base := base) T
  have G__law_add := ok__law_add (P := l.prog) (w := w) (base := base) T G__law_reduce
  have G__law_multiply := ok__law_multiply (P := l.prog) (w := w) (base := base) T G__law_reduce
  have G__law_sum := ok__law_sum (P := l.prog) (w := w) (base := base) T G__law_add
  have G__law_small := ok__law_small (P := l.prog) (w := w) (base := base) T G__law_choice G__law_draw G__law_reduce
  have G__law_linear_case := ok__law_linear_case (P := l.prog) (w := w) (base := base) T G__law_add G__law_choice G__law_draw G__law_multiply G__law_small G__law_sum
  exact ok_law T G__law_source G__law_choice G__law_draw G__law_equal G__law_linear_case G_check_solution G_solve_linear G__law_error_field TB (code_of F) rfl law_true F
end LW
open PySem PySem.W PySem.Calls PyProof.Rows
theorem PySem.Challenge.cw_gaithold_k21_invalid_shapes_holds : PySem.Challenge.rw_gaithold_k21_invalid_shapes.Holds := by
  w_on; o_law
  refine HandSHeadRun.head_any (r := OpenLaw.row PySem.Challenge.rw_gaithold_k21_invalid_shapes) (q := view (OpenLaw.row PySem.Challenge.rw_gaithold_k21_invalid_shapes).prog [38]) (H := LW.hk) (ob := LW.ob) (M := 20000) (loose := LW.loose) (d := HandSHeadRun.topDef (OpenLaw.row PySem.Challenge.rw_gaithold_k21_invalid_shapes).prog 38) (kwd := []) LW.ob_eq
    (by kernel_rfl) (fun s => by kernel_rfl) LW.run (by kernel_rfl) (by kernel_rfl) (by kernel_rfl) (by rfl) (by first | assumption | decide +kernel) (by decide +kernel) ⟨rfl, rfl, rfl, rfl, rfl, by decide +kernel⟩ ?hw ?hc
  case hw => w_witness2
  case hc =>
    refine LamX.walk_ofTsE (l := PySem.Challenge.rw_gaithold_k21_invalid_shapes) (n := 63) (k := 14) (x := "_law_script") (CX := fun w => L2N.CX (PySem.Challenge.rw_gaithold_k21_invalid_shapes).prog w) rfl (by decide) (by kernel_rfl) ⟨rfl, by decide, by decide⟩ ?F (fun _ _ _ _ _ z => DL.cx_false z)
    intro w mg fa h Y G hmg0
    have hmg : mg ("law" : PySem.Str) = some (.ref fa) := by
      have e : (HandSHeadRun.topDef (OpenLaw.row PySem.Challenge.rw_gaithold_k21_invalid_shapes).prog 38).name = ("law" : PySem.Str) := by kernel_rfl
      rw [← e]
      exact hmg0
    exact LW.law_at Y G hmg

