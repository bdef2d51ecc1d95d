import PyProof.Rows.All
import Wide.All
import OpenK.AllK
import Wide.FinOn
import HandS.Words
import KE.KExcInit
import HandS.ExcInit
import HandS.ExcField
import HandS.Head0
import HandS.Head1
import HandS.Head2
import HandS.HeadEnd
import HandS.HeadHook1
import HandS.HeadHook2
import HandS.HeadHook3
import HandS.HeadHook4
import HandS.ForMost
import HandS.ForExc
import HandS.CallSlots
import HandS.Walk
import HandS.Lambda
import HandS.ExcCtx
import HandS.IsInst
import HandS.Wide
import HandS.Defaults
import HandS.Deep
import HandS.TupAny
import KE.GoesMore
import PyProof.Draws
import HandS.Zip
import KE.KUnpackStar
import HandS.ExcValue
import HandS.Strs
import HandS.StrMore
import HandS.Text
import HandS.FStr
import HandS.SortKw
import HandS.Dict
import KE.DataMinMax
import ObjForm.LawKit
import HandS.DictComp
import HandS.MakeKw
import KE.KDictZip
import KE.KTurns
import HandS.Style
import HandS.TupMul
import HandS.More
import KE.GoesEnum
import HandS.HotCalls
import HandS.TryOnly
import KE.KDictPairs
import HandS.SortInts
import HandS.HeadWalk
import PyProof.ReprRoads
import HandS.EndTab
import PyProof.MeetsIn
import PyProof.Rows.Range3
import HandS.Small
import HandS.DictSub
import HandS.Conv
import PySem.Challenge.RW_gaithold_k19_whole_linear_equations
set_option Elab.async false
set_option linter.all false
set_option maxRecDepth 100000
namespace DL
open PySem PySem.Spec PyProof.Rows L2
inductive Bs where | ve | le | ze | ie
def Bs.tail : Bs → List Value
  | .ve => [.type "ValueError", .type "Exception", .type "BaseException", .type "object"]
  | .le => [.type "LookupError", .type "Exception", .type "BaseException", .type "object"]
  | .ze => [.type "ZeroDivisionError", .type "ArithmeticError", .type "Exception", .type "BaseException", .type "object"]
  | .ie => [.type "IndexError", .type "LookupError", .type "Exception", .type "BaseException", .type "object"]
def Bs.new : Bs → String
  | .ve => "ValueError.__new__"
  | .le => "LookupError.__new__"
  | .ze => "ZeroDivisionError.__new__"
  | .ie => "IndexError.__new__"
def Bs.all : Bs → List Value × String := fun b => (b.tail, b.new)
def refsY (g : Addr → Option Obj) (a : Addr) : List Addr := match g a with
  | some ⟨_, _, .func fd, _⟩ => a :: (He.refV fd.code ++ (He.refV fd.defaults ++ He.refV fd.kwdefaults))
  | some _ => [a]
  | none => []
def valsY (g : Addr → Option Obj) (a : Addr) (k : Addr → List Addr) : List Addr := match g a with
  | some ⟨_, _, .dict es _, _⟩ => es.toList.flatMap fun e => match e.val with
    | .ref b => k b
    | _ => []
  | _ => []
def asY (g : Addr → Option Obj) : List Addr := mainGlobals :: valsY g mainGlobals fun a => match g a with
  | some ⟨_, _, .cls cd, _⟩ => a :: cd.ns :: valsY g cd.ns (refsY g)
  | _ => refsY g a
def frY (g : Addr → Option Obj) : PySem.W.Frag := He.frT g (asY g)
def obsY (fa : List He.Fa) (fn : List He.DefD) (tf : List He.Defn) (ex : PySem.W.Frag → Bool) (g : Addr → Option Obj) : He.AlX := (He.obsT fa fn [] (frY g), ex (frY g) && He.tabsB g tf (frY g))
theorem saysY_of {fa : List He.Fa} {fn : List He.DefD} {tf : List He.Defn} {ex : PySem.W.Frag → Bool} {w : World} {h : Heap} (e : obsY fa fn tf ex h.get? = He.valX fn [] w) : He.SaysX fa fn [] tf ex w h (frY h.get?) := by
  have e1 : He.obsT fa fn [] (frY h.get?) = He.valT fn [] w := congrArg (fun z : He.AlX => z.1) e
  have e2 : (ex (frY h.get?) && He.tabsB h.get? tf (frY h.get?)) = true := congrArg (fun z : He.AlX => z.2) e
  obtain ⟨h1, h2⟩ := Bool.and_eq_true_iff.mp e2
  have key : ∀ p ∈ tf, PySem.W.codeHdIn (frY h.get?) (He.cT (frY h.get?) p).1 (He.cT (frY h.get?) p).2 = true ∧ ∃ o, h.get? (He.cT (frY h.get?) p).2 = some o ∧ He.emptyTab o = true := fun p hp => by
    obtain ⟨h3, h4⟩ := Bool.and_eq_true_iff.mp (List.all_eq_true.mp h2 p hp)
    refine ⟨h3, ?_⟩
    cases q : h.get? (He.cT (frY h.get?) p).2 with
    | none => rw [q] at h4; cases h4
    | some o => rw [q] at h4; exact ⟨o, rfl, h4⟩
  exact ⟨e1, h1, fun p hp => (key p hp).1, fun p hp => by
    obtain ⟨_, o, q, z⟩ := key p hp
    exact He.frT_none q z, fun p hp => by
    obtain ⟨_, o, q, z⟩ := key p hp
    rw [q, He.emptyTab_eq z]⟩
def hookY (fa : List He.Fa) (fn : List He.DefD) (tf : List He.Defn) (ex : PySem.W.Frag → Bool) : PySem.W.Hook where
  α := He.AlX
  obs := fun s => obsY fa fn tf ex s.heap.get?
  val := fun w => He.valX fn [] w
  says := fun w h => ∃ K : PySem.W.Frag, K.In h ∧ He.SaysX fa fn [] tf ex w h K
  of := fun _ _ e => ⟨_, He.frT_in, saysY_of e⟩
  keeps := fun _ _ _ ⟨K, hK, c⟩ k => ⟨K, PySem.W.Frag.In.keeps hK k, ⟨c.t, c.more, c.hd, c.out, fun p hp => k _ _ (c.empty p hp)⟩⟩
theorem obsY_eq {fa : List He.Fa} {fn : List He.DefD} {tf : List He.Defn} {ex : PySem.W.Frag → Bool} {g : Addr → Option Obj} {s : Shared} (h : ∀ a, g a = s.heap.get? a) : obsY fa fn tf ex g = (hookY fa fn tf ex).obs s := by
  have e : g = s.heap.get? := funext h
  rw [e] <;> rfl
noncomputable def endY (r : PySem.W.OpenRow) (M : Nat) (w : World) (os : OsState) : Option PySem.W.SharedT := HandSHeadRun.endF (HandSHeadRun.stepQ (HandSHeadRun.denQ HandSHeadRun.tabQ) r.prog w) M r.prog w os
def runA (r : PySem.W.OpenRow) (q : Program) (fa : List He.Fa) (tf : List He.Defn) (ex : PySem.W.Frag → Bool) (M : Nat) (loose : List PySem.Str) (w : World) : Prop :=
  ∀ os : OsState, (endY r M w os).map (fun s => (HandSHeadRun.looksF r.prog (PySem.W.boot_heap w.params) s.abs, HandSHeadRun.seenQ q loose (importedModules r.prog.main.body) (fun s => PySem.W.xlAt q [] s && PySem.W.recOk r.toRowW.records s) s.abs, fa.all (fun f => f.ok (frY (HandSHeadRun.getT s))), ex (frY (HandSHeadRun.getT s)) && He.tabsB (HandSHeadRun.getT s) tf (frY (HandSHeadRun.getT s)))) = some (true, PySem.W.openGood q loose, true, true)
def runB (r : PySem.W.OpenRow) (fn : List He.DefD) (M : Nat) (w : World) : Prop :=
  ∀ os : OsState, (endY r M w os).map (fun s => (fn.all (fun d => d.ok (frY (HandSHeadRun.getT s))), fn.map fun d => He.fnW (frY (HandSHeadRun.getT s)) d.at_)) = some (true, fn.map He.DefD.val)
theorem run_parts {r : PySem.W.OpenRow} {q : Program} {fa : List He.Fa} {fn : List He.DefD} {tf : List He.Defn} {ex : PySem.W.Frag → Bool} {M : Nat} {loose : List PySem.Str} {w : World} (h1 : runA r q fa tf ex M loose w) (h2 : runB r fn M w) : HandSHeadRun.RunEq r q (hookY fa fn tf ex) (fun s => obsY fa fn tf ex (HandSHeadRun.getT s)) M loose w := fun os => by
  have a := h1 os
  have b := h2 os
  show (endY r M w os).map _ = _
  cases e : endY r M w os with
  | none => rw [e] at a; cases a
  | some s =>
    rw [e] at a b
    simp only [Option.map_some, Option.some.injEq, Prod.mk.injEq] at a b
    refine congrArg some (Prod.ext a.1 (Prod.ext a.2.1 ?_))
    show (((fa.all (fun f => f.ok (frY (HandSHeadRun.getT s))) && fn.all (fun d => d.ok (frY (HandSHeadRun.getT s))), fn.map fun d => He.fnW (frY (HandSHeadRun.getT s)) d.at_), []), ex (frY (HandSHeadRun.getT s)) && He.tabsB (HandSHeadRun.getT s) tf (frY (HandSHeadRun.getT s))) = (((true, fn.map He.DefD.val), []), true)
    rw [a.2.2.1, a.2.2.2, b.1, b.2]
    rfl
end DL
set_option Elab.async false
set_option linter.all false
set_option maxRecDepth 100000
set_option maxHeartbeats 4000000
namespace LW
open PySem PySem.Spec PyProof.Rows L2 DL
def topS (i : Nat) : Stmt := PySem.Challenge.pw_gaithold_k19_whole_linear_equations.main.body.getD i (.Pass ⟨0, 0, 0, 0⟩)
abbrev s_gcd : Stmt := topS 7
abbrev s_fraction : Stmt := topS 8
abbrev s_subtract : Stmt := topS 9
abbrev s_multiply : Stmt := topS 10
abbrev s_divide : Stmt := topS 11
abbrev s_check_shape : Stmt := topS 13
abbrev s_subtract_multiple : Stmt := topS 14
abbrev s_scaled : Stmt := topS 15
abbrev s_pivot : Stmt := topS 16
abbrev s_unit_row : Stmt := topS 17
abbrev s_solve_linear : Stmt := topS 18
abbrev s__law_source : Stmt := topS 20
abbrev s__law_draw : Stmt := topS 21
abbrev s__law_choice : Stmt := topS 22
abbrev s__law_equal : Stmt := topS 23
abbrev s__law_reduce : Stmt := topS 24
abbrev s__law_add : Stmt := topS 25
abbrev s__law_multiply : Stmt := topS 26
abbrev s__law_sum : Stmt := topS 27
abbrev s__law_small : Stmt := topS 28
abbrev s__law_linear_case : Stmt := topS 29
abbrev s__law_check_solution : Stmt := topS 30
abbrev s_law : Stmt := topS 31
abbrev d_gcd : He.DefD := ⟨("gcd", none), "gcd", "gcd", defArgs s_gcd, defBody s_gcd, defScope s_gcd, [], []⟩
abbrev d_fraction : He.DefD := ⟨("fraction", none), "fraction", "fraction", defArgs s_fraction, defBody s_fraction, defScope s_fraction, [.int 1], []⟩
abbrev d_subtract : He.DefD := ⟨("subtract", none), "subtract", "subtract", defArgs s_subtract, defBody s_subtract, defScope s_subtract, [], []⟩
abbrev d_multiply : He.DefD := ⟨("multiply", none), "multiply", "multiply", defArgs s_multiply, defBody s_multiply, defScope s_multiply, [], []⟩
abbrev d_divide : He.DefD := ⟨("divide", none), "divide", "divide", defArgs s_divide, defBody s_divide, defScope s_divide, [], []⟩
abbrev d_check_shape : He.DefD := ⟨("check_shape", none), "check_shape", "check_shape", defArgs s_check_shape, defBody s_check_shape, defScope s_check_shape, [], []⟩
abbrev d_subtract_multiple : He.DefD := ⟨("subtract_multiple", none), "subtract_multiple", "subtract_multiple", defArgs s_subtract_multiple, defBody s_subtract_multiple, defScope s_subtract_multiple, [], []⟩
abbrev d_scaled : He.DefD := ⟨("scaled", none), "scaled", "scaled", defArgs s_scaled, defBody s_scaled, defScope s_scaled, [], []⟩
abbrev d_pivot : He.DefD := ⟨("pivot", none), "pivot", "pivot", defArgs s_pivot, defBody s_pivot, defScope s_pivot, [], []⟩
abbrev d_unit_row : He.DefD := ⟨("unit_row", none), "unit_row", "unit_row", defArgs s_unit_row, defBody s_unit_row, defScope s_unit_row, [], []⟩
abbrev d_solve_linear : He.DefD := ⟨("solve_linear", none), "solve_linear", "solve_linear", defArgs s_solve_linear, defBody s_solve_linear, defScope s_solve_linear, [], []⟩
abbrev d__law_source : He.DefD := ⟨("_law_source", none), "_law_source", "_law_source", defArgs s__law_source, defBody s__law_source, defScope s__law_source, [], []⟩
abbrev d__law_draw : He.DefD := ⟨("_law_draw", none), "_law_draw", "_law_draw", defArgs s__law_draw, defBody s__law_draw, defScope s__law_draw, [], []⟩
abbrev d__law_choice : He.DefD := ⟨("_law_choice", none), "_law_choice", "_law_choice", defArgs s__law_choice, defBody s__law_choice, defScope s__law_choice, [], []⟩
abbrev d__law_equal : He.DefD := ⟨("_law_equal", none), "_law_equal", "_law_equal", defArgs s__law_equal, defBody s__law_equal, defScope s__law_equal, [], []⟩
abbrev d__law_reduce : He.DefD := ⟨("_law_reduce", none), "_law_reduce", "_law_reduce", defArgs s__law_reduce, defBody s__law_reduce, defScope s__law_reduce, [], []⟩
abbrev d__law_add : He.DefD := ⟨("_law_add", none), "_law_add", "_law_add", defArgs s__law_add, defBody s__law_add, defScope s__law_add, [], []⟩
abbrev d__law_multiply : He.DefD := ⟨("_law_multiply", none), "_law_multiply", "_law_multiply", defArgs s__law_multiply, defBody s__law_multiply, defScope s__law_multiply, [], []⟩
abbrev d__law_sum : He.DefD := ⟨("_law_sum", none), "_law_sum", "_law_sum", defArgs s__law_sum, defBody s__law_sum, defScope s__law_sum, [], []⟩
abbrev d__law_small : He.DefD := ⟨("_law_small", none), "_law_small", "_law_small", defArgs s__law_small, defBody s__law_small, defScope s__law_small, [], []⟩
abbrev d__law_linear_case : He.DefD := ⟨("_law_linear_case", none), "_law_linear_case", "_law_linear_case", defArgs s__law_linear_case, defBody s__law_linear_case, defScope s__law_linear_case, [], []⟩
abbrev d__law_check_solution : He.DefD := ⟨("_law_check_solution", none), "_law_check_solution", "_law_check_solution", defArgs s__law_check_solution, defBody s__law_check_solution, defScope s__law_check_solution, [], []⟩
abbrev d_law : He.DefD := ⟨("law", none), "law", "law", defArgs s_law, defBody s_law, defScope s_law, [], []⟩
def fn_0 : List He.DefD := [d_gcd, d_fraction, d_subtract, d_multiply, d_divide, d_check_shape, d_subtract_multiple, d_scaled, d_pivot, d_unit_row, d_solve_linear, d__law_source, d__law_draw, d__law_choice, d__law_equal, d__law_reduce, d__law_add, d__law_multiply, d__law_sum, d__law_small, d__law_linear_case, d__law_check_solution, d_law]
def fn : List He.DefD := fn_0
def fa_0 : List He.Fa := [.glo "gcd", .glo "fraction", .glo "subtract", .glo "multiply", .glo "divide", .glo "check_shape", .glo "subtract_multiple", .glo "scaled", .glo "pivot", .glo "unit_row", .glo "solve_linear", .glo "_law_source", .glo "_law_draw", .glo "_law_choice", .glo "_law_equal", .glo "_law_reduce", .glo "_law_add", .glo "_law_multiply", .glo "_law_sum", .glo "_law_small", .glo "_law_linear_case", .glo "_law_check_solution", .glo "law", .free "abs", .free "all", .free "bool", .free "enumerate", .free "int", .free "isinstance", .free "len"]
def fa_1 : List He.Fa := [.free "list", .free "range", .free "repr", .free "str", .free "tuple", .free "zip", .glo "ZERO", .glo "ONE"]
def fa : List He.Fa := fa_0 ++ fa_1
def exs_0 : List (PySem.W.Frag → Bool) := [(fun K => He.tupB K "ZERO" [.int 0, .int 1]), (fun K => He.tupB K "ONE" [.int 1, .int 1])]
def exs : List (PySem.W.Frag → Bool) := exs_0
def loose_0 : List PySem.Str := ["GaitError", "ZeroDenominator", "InvalidShape", "ZERO", "ONE", "gcd", "fraction", "subtract", "multiply", "divide", "check_shape", "subtract_multiple", "scaled", "pivot", "unit_row", "solve_linear", "_law_source", "_law_draw", "_law_choice", "_law_equal", "_law_reduce", "_law_add", "_law_multiply", "_law_sum", "_law_small", "_law_linear_case", "_law_check_solution"]
def loose : List PySem.Str := loose_0
def ex (K : PySem.W.Frag) : Bool := exs.all fun f => f K
abbrev R : PySem.W.OpenRow := PySem.W.OpenLaw.row PySem.Challenge.rw_gaithold_k19_whole_linear_equations
abbrev hk : PySem.W.Hook := hookY fa fn [] ex
def ob (s : PySem.W.SharedT) : He.AlX := obsY fa fn [] ex (HandSHeadRun.getT s)
theorem ob_eq (s : PySem.W.SharedT) : ob s = hk.obs s.abs := obsY_eq (HandSHeadRun.getT_eq s)
set_option maxHeartbeats 0 in
theorem run_a (w : World) : runA R (PySem.W.view R.prog [31]) fa [] ex 20000 loose w := by
  intro os
  kernel_rfl
set_option maxHeartbeats 0 in
theorem run_b (w : World) : runB R fn 20000 w := by
  intro os
  kernel_rfl
theorem run (w : World) : HandSHeadRun.RunEq R (PySem.W.view R.prog [31]) hk ob 20000 loose w := run_parts (run_a w) (run_b w)
end LW
set_option Elab.async false
set_option linter.all false
set_option maxRecDepth 100000
namespace DL
open PySem L2
inductive D where
  | non | bl (b : Bool) | int (i : Int) | str (x : Str)
  | tup (l : List D) | lst (l : List D)
  | dic (ks : List Key) (l : List D)
  | ins (c : Str) (ns : List Str) (l : List D)
  | key (ks : List Key) | dcT (ks : List (List Key)) (l : List D)
  deriving Inhabited
structure G where
  K : PySem.W.Frag
  cm : Str → Option Addr
  tb : List (Addr × Str)
mutual
def Rep (g : G) (H : Hp) (A : Addr → Prop) : D → V → Prop
  | .non, v => v = .non
  | .bl b, v => v = .bl b
  | .int i, v => v = .int i
  | .str x, v => v = .str x
  | .tup l, v => ∃ a vs, v = .ref a ∧ SqT g.K H a vs ∧ RepL g H A l vs
  | .lst l, v => ∃ a vs, v = .ref a ∧ A a ∧ H a = some (.lst vs) ∧ RepL g H A l vs
  | .dic ks l, v => ∃ a vs, v = .ref a ∧ A a ∧ Rd H a (.dK (ks.zip vs)) ∧ ks.length = vs.length ∧ RepL g H A l vs
  | .ins c ns l, v => ∃ a C dx vs, v = .ref a ∧ A a ∧ g.cm c = some C ∧ H a = some (.ins C dx (ns.zip vs)) ∧ ns.length = vs.length ∧ RepL g H A l vs
  | .key ks, v => ∃ a, v = .ref a ∧ H a = some (.tup (ks.map kV))
  | .dcT ks l, v => ∃ a vs, v = .ref a ∧ A a ∧ H a = some (.dT (ks.zip vs)) ∧ ks.length = vs.length ∧ RepL g H A l vs
def RepL (g : G) (H : Hp) (A : Addr → Prop) : List D → List V → Prop
  | [], vs => vs = []
  | d :: l, vs => ∃ v r, vs = v :: r ∧ Rep g H A d v ∧ RepL g H A l r
end
theorem RepL.nil {g : G} {H : Hp} {A : Addr → Prop} : RepL g H A [] [] := by rw [RepL]
theorem RepL.cons {g : G} {H : Hp} {A : Addr → Prop} {d : D} {v : V} {l : List D} {r : List V} (h : Rep g H A d v) (hr : RepL g H A l r) : RepL g H A (d :: l) (v :: r) := by
  rw [RepL]; exact ⟨v, r, rfl, h, hr⟩
theorem RepL.length {g : G} {H : Hp} {A : Addr → Prop} : ∀ {l : List D} {vs : List V}, RepL g H A l vs → l.length = vs.length
  | [], vs, h => by rw [RepL] at h; subst h; rfl
  | d :: l, vs, h => by
    rw [RepL] at h; obtain ⟨v, r, rfl, _, hr⟩ := h
    simp [RepL.length hr]
theorem RepL.append {g : G} {H : Hp} {A : Addr → Prop} : ∀ {l l' : List D} {vs vs' : List V}, RepL g H A l vs → RepL g H A l' vs' → RepL g H A (l ++ l') (vs ++ vs')
  | [], l', vs, vs', h, h' => by rw [RepL] at h; subst h; exact h'
  | d :: l, l', vs, vs', h, h' => by
    rw [RepL] at h; obtain ⟨v, r, rfl, hv, hr⟩ := h
    exact RepL.cons hv (RepL.append hr h')
theorem RepL.get {g : G} {H : Hp} {A : Addr → Prop} : ∀ {l : List D} {vs : List V} {i : Nat} {d : D}, RepL g H A l vs → l[i]? = some d → ∃ v, vs[i]? = some v ∧ Rep g H A d v
  | [], vs, i, d, h, e => by simp at e
  | d :: l, vs, 0, d', h, e => by
    rw [RepL] at h; obtain ⟨v, r, rfl, hv, hr⟩ := h
    simp at e; subst e; exact ⟨v, rfl, hv⟩
  | d :: l, vs, i + 1, d', h, e => by
    rw [RepL] at h; obtain ⟨v, r, rfl, hv, hr⟩ := h
    obtain ⟨u, e1, e2⟩ := RepL.get (i := i) (d := d') hr (by simpa using e)
    exact ⟨u, by simpa using e1, e2⟩
theorem RepL.getV {g : G} {H : Hp} {A : Addr → Prop} : ∀ {l : List D} {vs : List V} {i : Nat} {v : V}, RepL g H A l vs → vs[i]? = some v → ∃ d, l[i]? = some d ∧ Rep g H A d v
  | [], vs, i, d, h, e => by rw [RepL] at h; subst h; simp at e
  | d :: l, vs, 0, d', h, e => by
    rw [RepL] at h; obtain ⟨v, r, rfl, hv, hr⟩ := h
    simp at e; subst e; exact ⟨d, rfl, hv⟩
  | d :: l, vs, i + 1, d', h, e => by
    rw [RepL] at h; obtain ⟨v, r, rfl, hv, hr⟩ := h
    obtain ⟨u, e1, e2⟩ := RepL.getV (i := i) (v := d') hr (by simpa using e)
    exact ⟨u, by simpa using e1, e2⟩
theorem RepL.take {g : G} {H : Hp} {A : Addr → Prop} : ∀ {l : List D} {vs : List V} (n : Nat), RepL g H A l vs → RepL g H A (l.take n) (vs.take n)
  | [], vs, n, h => by rw [RepL] at h; subst h; simp; exact RepL.nil
  | d :: l, vs, 0, h => by simp; exact RepL.nil
  | d :: l, vs, n + 1, h => by
    rw [RepL] at h; obtain ⟨v, r, rfl, hv, hr⟩ := h
    exact RepL.cons hv (RepL.take n hr)
theorem RepL.drop {g : G} {H : Hp} {A : Addr → Prop} : ∀ {l : List D} {vs : List V} (n : Nat), RepL g H A l vs → RepL g H A (l.drop n) (vs.drop n)
  | [], vs, n, h => by rw [RepL] at h; subst h; simp; exact RepL.nil
  | d :: l, vs, 0, h => by simpa using h
  | d :: l, vs, n + 1, h => by
    rw [RepL] at h; obtain ⟨v, r, rfl, hv, hr⟩ := h
    simpa using RepL.drop n hr
theorem RepL.set {g : G} {H : Hp} {A : Addr → Prop} {d' : D} {v' : V} (hx : Rep g H A d' v') : ∀ {l : List D} {vs : List V} (n : Nat), RepL g H A l vs → RepL g H A (l.set n d') (vs.set n v')
  | [], vs, n, h => by rw [RepL] at h; subst h; simp; exact RepL.nil
  | d :: l, vs, 0, h => by
    rw [RepL] at h; obtain ⟨v, r, rfl, hv, hr⟩ := h
    exact RepL.cons hx hr
  | d :: l, vs, n + 1, h => by
    rw [RepL] at h; obtain ⟨v, r, rfl, hv, hr⟩ := h
    exact RepL.cons hv (RepL.set hx n hr)
structure Keep (A : Addr → Prop) (H H' : Hp) : Prop where
  tup : ∀ a xs, Rd H a (.tup xs) → Rd H' a (.tup xs)
  all : ∀ a o, A a → H a = some o → H' a = some o
  key : ∀ a xs, H a = some (.tup xs) → H' a = some (.tup xs)
theorem Keep.same {A : Addr → Prop} {H H' : Hp} (s : Same H H') : Keep A H H' :=
  ⟨fun a xs h => h.elim (fun e => .inl (s _ _ e)) (fun ⟨o, e⟩ => .inr ⟨o, s _ _ e⟩), fun a o _ e => s _ _ e, fun a xs e => s _ _ e⟩
theorem Keep.rd {A : Addr → Prop} {H H' : Hp} {a : Addr} {u : HO} (k : Keep A H H') (h0 : A a) (h : Rd H a u) : Rd H' a u := h.elim (fun e => .inl (k.all _ _ h0 e)) fun ⟨o, e⟩ => .inr ⟨o, k.all _ _ h0 e⟩
theorem rd_some {H : Hp} {a : Addr} {u : HO} (h : Rd H a u) : ∃ o, H a = some o := h.elim (fun e => ⟨_, e⟩) fun ⟨_, e⟩ => ⟨_, e⟩
theorem Keep.sqT {K : PySem.W.Frag} {A : Addr → Prop} {H H' : Hp} {a : Addr} {xs : List V} (k : Keep A H H') (h : SqT K H a xs) : SqT K H' a xs := by
  rcases h with h | h
  · exact .inl (k.tup _ _ h)
  · exact .inr h
mutual
theorem Rep.mono {g : G} {H H' : Hp} {A A' : Addr → Prop} (k : Keep A H H') (hA : ∀ a, A a → (∃ o, H a = some o) → A' a) : ∀ {d : D} {v : V}, Rep g H A d v → Rep g H' A' d v
  | .non, v, h => by rw [Rep] at h ⊢; exact h
  | .bl b, v, h => by rw [Rep] at h ⊢; exact h
  | .int b, v, h => by rw [Rep] at h ⊢; exact h
  | .str b, v, h => by rw [Rep] at h ⊢; exact h
  | .tup l, v, h => by
    rw [Rep] at h ⊢; obtain ⟨a, vs, e, h1, h2⟩ := h
    exact ⟨a, vs, e, k.sqT h1, RepL.mono k hA h2⟩
  | .lst l, v, h => by
    rw [Rep] at h ⊢; obtain ⟨a, vs, e, h0, h1, h2⟩ := h
    exact ⟨a, vs, e, hA a h0 ⟨_, h1⟩, k.all _ _ h0 h1, RepL.mono k hA h2⟩
  | .dic ks l, v, h => by
    rw [Rep] at h ⊢; obtain ⟨a, vs, e, h0, h1, h2, h3⟩ := h
    exact ⟨a, vs, e, hA a h0 (rd_some h1), k.rd h0 h1, h2, RepL.mono k hA h3⟩
  | .ins c ns l, v, h => by
    rw [Rep] at h ⊢; obtain ⟨a, C, dx, vs, e, h0, hc, h1, h2, h3⟩ := h
    exact ⟨a, C, dx, vs, e, hA a h0 ⟨_, h1⟩, hc, k.all _ _ h0 h1, h2, RepL.mono k hA h3⟩
  | .key ks, v, h => by
    rw [Rep] at h ⊢; obtain ⟨a, e, h1⟩ := h
    exact ⟨a, e, k.key _ _ h1⟩
  | .dcT ks l, v, h => by
    rw [Rep] at h ⊢; obtain ⟨a, vs, e, h0, h1, h2, h3⟩ := h
    exact ⟨a, vs, e, hA a h0 ⟨_, h1⟩, k.all _ _ h0 h1, h2, RepL.mono k hA h3⟩
theorem RepL.mono {g : G} {H H' : Hp} {A A' : Addr → Prop} (k : Keep A H H') (hA : ∀ a, A a → (∃ o, H a = some o) → A' a) : ∀ {l : List D} {vs : List V}, RepL g H A l vs → RepL g H' A' l vs
  | [], vs, h => by rw [RepL] at h ⊢; exact h
  | d :: l, vs, h => by
    rw [RepL] at h ⊢; obtain ⟨v, r, e, h1, h2⟩ := h
    exact ⟨v, r, e, Rep.mono k hA h1, RepL.mono k hA h2⟩
end
mutual
def D.noLst : D → Bool
  | .non | .bl _ | .int _ | .str _ => true
  | .tup l => D.noLstL l
  | .lst _ | .dic _ _ | .ins _ _ _ | .key _ | .dcT _ _ => false
def D.noLstL : List D → Bool
  | [] => true
  | d :: l => d.noLst && D.noLstL l
end
mutual
theorem Rep.any {g : G} {H : Hp} {A A' : Addr → Prop} : ∀ {d : D} {v : V}, d.noLst = true → Rep g H A d v → Rep g H A' d v
  | .non, v, _, h => by rw [Rep] at h ⊢; exact h
  | .bl b, v, _, h => by rw [Rep] at h ⊢; exact h
  | .int b, v, _, h => by rw [Rep] at h ⊢; exact h
  | .str b, v, _, h => by rw [Rep] at h ⊢; exact h
  | .tup l, v, n, h => by
    rw [Rep] at h ⊢; obtain ⟨a, vs, e, h1, h2⟩ := h
    rw [D.noLst] at n
    exact ⟨a, vs, e, h1, RepL.any n h2⟩
  | .lst l, v, n, h => by rw [D.noLst] at n; cases n
  | .dic ks l, v, n, h => by rw [D.noLst] at n; cases n
  | .ins c ns l, v, n, h => by rw [D.noLst] at n; cases n
  | .key ks, v, n, h => by rw [D.noLst] at n; cases n
  | .dcT ks l, v, n, h => by rw [D.noLst] at n; cases n
theorem RepL.any {g : G} {H : Hp} {A A' : Addr → Prop} : ∀ {l : List D} {vs : List V}, D.noLstL l = true → RepL g H A l vs → RepL g H A' l vs
  | [], vs, _, h => by rw [RepL] at h ⊢; exact h
  | d :: l, vs, n, h => by
    rw [RepL] at h ⊢; obtain ⟨v, r, e, h1, h2⟩ := h
    rw [D.noLstL, Bool.and_eq_true] at n
    exact ⟨v, r, e, Rep.any n.1 h1, RepL.any n.2 h2⟩
end
end DL
set_option Elab.async false
set_option linter.all false
set_option maxRecDepth 100000
namespace DL
open PySem L2
structure Rng where
  cells : List Int
  i : Int
  b : Int
  s : Int
  pc : List (List Key × Int) := []
  pd : List (List Key × Int) := []
structure Exc where
  cls : Str
  ns : List Str
  l : List D
inductive Res (α : Type) where
  | ok (a : α)
  | err (x : Exc)
  | stuck
def Res.bind {α β : Type} (r : Res α) (k : α → Res β) : Res β :=
  match r with
  | .ok a => k a
  | .err x => .err x
  | .stuck => .stuck
inductive Slot where
  | un
  | ex (x : Exc)
  | sh (d : D)
  | ow (l : List D)
  | rng
  | me
  | pol
abbrev En := List Slot
inductive Out where
  | nx (e : En) (g : Rng)
  | rt (d : D) (g : Rng)
  | bk (e : En) (g : Rng)
  | ct (e : En) (g : Rng)
abbrev ME := En → Rng → Res (D × Rng)
abbrev MT := En → Rng → Res (Bool × Rng)
abbrev MA := En → Rng → Res (List D × Rng)
abbrev MS := En → Rng → Res Out
structure Ctx where
  X : Cx
  cm : Str → Option Addr
  tb : List (Addr × Str)
  W : WX
  H0 : Hp
  A : Addr → Prop
  rg : Option (Addr × Addr)
  exc : Option (Addr × Obj) := none
  me : Option Addr := none
  po : Option (Addr × Addr × Addr) := none
def Ctx.io (C : Ctx) (a : Addr) : Prop := ((∃ c, C.rg = some (a, c)) ∨ ∃ r b, C.po = some (r, a, b) ∨ C.po = some (r, b, a)) ∨ ∃ p ∈ C.tb, p.1 = a
def MutO (o : HO) : Prop := (∃ xs, o = .lst xs) ∨ (∃ ps, o = .tbl ps) ∨ ∃ m, o = .dT m
theorem Ctx.io_no {C : Ctx} (h1 : C.rg = none) (h2 : C.po = none) {a : Addr} (h : C.io a) : ∃ p ∈ C.tb, p.1 = a := by
  rcases h with (⟨c, z⟩ | ⟨r, b, z | z⟩) | h
  · rw [h1] at z; cases z
  · rw [h2] at z; cases z
  · rw [h2] at z; cases z
  · exact h
theorem Ctx.io_rg {C : Ctx} {r c : Addr} (h1 : C.rg = some (r, c)) (h2 : C.po = none) {a : Addr} (h : C.io a) : a = r ∨ ∃ p ∈ C.tb, p.1 = a := by
  rcases h with (⟨c, z⟩ | ⟨r, b, z | z⟩) | h
  · rw [h1] at z; cases z; exact .inl rfl
  · rw [h2] at z; cases z
  · rw [h2] at z; cases z
  · exact .inr h
abbrev Tabs := LamX.Tabs
theorem Tabs.at_ {T : List (Addr × Str)} {H : Hp} (t : Tabs T H) {p : Addr × Str} (hp : p ∈ T) : ∃ o, H p.1 = some o ∧ MutO o := by
  obtain ⟨ps, h, _⟩ := t p hp
  exact ⟨_, h, .inr (.inl ⟨ps, rfl⟩)⟩
theorem codeO_lst {c : Addr} {q : Str} {xs : List V} : LamX.CodeO c q ≠ .lst xs := fun z => by
  unfold LamX.CodeO at z
  cases z
theorem Tabs.upd {T : List (Addr × Str)} {H : Hp} {a : Addr} {xs : List V} {o : HO} (t : Tabs T H) (h : H a = some (.lst xs)) : Tabs T (upd H a o) := fun p hp => by
  obtain ⟨ps, h1, h2, h3⟩ := t p hp
  have n1 : p.1 ≠ a := fun z => by rw [z, h] at h1; cases h1
  refine ⟨ps, by rw [upd_ne n1]; exact h1, h2, fun pos cv hc => ?_⟩
  obtain ⟨c, e1, e2⟩ := h3 pos cv hc
  have n2 : c ≠ a := fun z => by rw [z, h] at e2; exact codeO_lst (Option.some.inj e2).symm
  exact ⟨c, e1, by rw [upd_ne n2]; exact e2⟩
abbrev Ctx.g (C : Ctx) : G := ⟨C.X.K, C.cm, C.tb⟩
abbrev Own := Nat → Option Addr
def Ctx.Al (C : Ctx) (own : Own) (a : Addr) : Prop := (C.A a ∨ C.H0 a = none) ∧ (∀ j, own j ≠ some a) ∧ ¬ C.io a
structure RngAt (H : Hp) (r c : Addr) (g : Rng) : Prop where
  ne : c ≠ r
  at_ : H r = some (.lst [.ref c, .int g.i, .int g.b, .int g.s])
  ce : H c = some (.lst (g.cells.map V.int))
  i0 : 0 ≤ g.i
  b0 : 0 ≤ g.b
  s0 : 0 ≤ g.s
  s1 : g.s < 2147483563
  cl : g.cells.length ≤ 63
structure PolAt (cm : Str → Option Addr) (H : Hp) (r a b : Addr) (g : Rng) : Prop where
  ne : a ≠ b
  at_ : ∃ Cp dx, cm "Policy" = some Cp ∧ H r = some (.ins Cp dx [("choices", .ref a), ("dropped", .ref b)])
  ca : H a = some (.dT (g.pc.map fun p => (p.1, V.int p.2)))
  cb : H b = some (.dT (g.pd.map fun p => (p.1, V.int p.2)))
def XfOk (K : PySem.W.Frag) (C : Addr) (ns : List Str) : Prop := L2.XfC K C ∧ ∀ n ∈ ns, PySem.W.findIn K (.ref C) n = some none
def ExR (C : Ctx) (own : Own) (H : Hp) (o : Option (Option V)) (x : Exc) : Prop := ∃ a oe Ca dd vs, C.exc = some (a, oe) ∧ o = some (some (.ref a)) ∧ Zc (.ref Ca) (some dd) oe ∧ (∃ us, oe.data = .fields us) ∧ XfOk C.X.K Ca x.ns ∧ H dd = some (.xd (x.ns.zip vs)) ∧ x.ns.length = vs.length ∧ RepL C.g H (C.Al own) x.l vs
def SlR (C : Ctx) (own : Own) (H : Hp) (o : Option (Option V)) (i : Nat) : Slot → Prop
  | .un => True
  | .ex x => ExR C own H o x
  | .sh d => ∃ v, o = some (some v) ∧ Rep C.g H (C.Al own) d v
  | .ow l => ∃ p vs, own i = some p ∧ o = some (some (.ref p)) ∧ H p = some (.lst vs) ∧ RepL C.g H (C.Al own) l vs
  | .rng => ∃ r c, C.rg = some (r, c) ∧ o = some (some (.ref r))
  | .me => ∃ a, C.me = some a ∧ o = some (some (.ref a))
  | .pol => ∃ r a b, C.po = some (r, a, b) ∧ o = some (some (.ref r))
structure SR (C : Ctx) (own : Own) (F H : Hp) (σ : L2.St) (e : En) (g : Rng) : Prop where
  len : σ.length = e.length
  sl : ∀ i s, e[i]? = some s → SlR C own H (σ[i]?) i s
  on : ∀ i p, own i = some p → (∃ xs, H p = some (.lst xs)) ∧ C.H0 p = none ∧ ¬ C.io p
  ph : ∀ i p, own i = some p → i < e.length → ∃ l, e[i]? = some (.ow l)
  inj : ∀ i j p, own i = some p → own j = some p → i = j
  fin : ∃ n, ∀ j, n ≤ j → own j = none
  h0 : ∀ a o, C.H0 a = some o → ¬ C.io a → H a = some o
  fr : ∀ a o, F a = some o → H a = some o ∧ (∀ j, own j ≠ some a) ∧ ¬ C.io a
  io : ∀ a, C.io a → ∃ o, H a = some o ∧ MutO o
  tb : Tabs C.tb H
  ih : ∀ a, C.io a → C.H0 a ≠ none
  rg : ∀ r c, C.rg = some (r, c) → C.io r ∧ ¬ C.io c ∧ C.H0 c ≠ none ∧ RngAt H r c g
  po : ∀ r a b, C.po = some (r, a, b) → C.rg = none ∧ ¬ C.io r ∧ C.H0 r ≠ none ∧ PolAt C.cm H r a b g
def ExtI (C : Ctx) (H H' : Hp) : Prop := ∀ a o, H a = some o → ¬ C.io a → H' a = some o
theorem ExtI.refl {C : Ctx} (H : Hp) : ExtI C H H := fun _ _ h _ => h
theorem ExtI.trans {C : Ctx} {H H1 H2 : Hp} (a : ExtI C H H1) (b : ExtI C H1 H2) : ExtI C H H2 := fun x o h n => b x o (a x o h n) n
theorem ExtI.of {C : Ctx} {H H' : Hp} (s : Same H H') : ExtI C H H' := fun a o h _ => s a o h
section
variable {C : Ctx} {own : Own} {F H H' : Hp} {σ : L2.St} {e : En} {g g' : Rng}
theorem SR.keep (S : SR C own F H σ e g) (x : ExtI C H H') : Keep (C.Al own) H H' := by
  have n : ∀ a xs, Rd H a (.tup xs) → ¬ C.io a := fun a xs h hi => by
    obtain ⟨ob, hy, hm⟩ := S.io a hi
    rcases hm with ⟨ys, rfl⟩ | ⟨ys, rfl⟩ | ⟨ys, rfl⟩ <;> rcases h with h | ⟨o, h⟩ <;> (rw [hy] at h; cases h)
  refine ⟨fun a xs h => ?_, fun a o h1 h2 => x a o h2 h1.2.2, fun a xs h => x _ _ h (n a xs (.inl h))⟩
  have n := n a xs h
  rcases h with h | ⟨o, h⟩
  · exact .inl (x _ _ h n)
  · exact .inr ⟨o, x _ _ h n⟩
theorem SR.rep (S : SR C own F H σ e g) (x : ExtI C H H') {d : D} {v : V} (h : Rep C.g H (C.Al own) d v) : Rep C.g H' (C.Al own) d v :=
  h.mono (S.keep x) fun _ a _ => a
theorem SR.repL (S : SR C own F H σ e g) (x : ExtI C H H') {d : List D} {v : List V} (h : RepL C.g H (C.Al own) d v) : RepL C.g H' (C.Al own) d v :=
  h.mono (S.keep x) fun _ a _ => a
theorem ExR.mono {own' : Own} {o : Option (Option V)} {x : Exc} (r : ExR C own H o x) (k : Keep (C.Al own) H H') (xd : ∀ a fs, H a = some (.xd fs) → H' a = some (.xd fs)) (up : ∀ a, C.Al own a → (∃ o, H a = some o) → C.Al own' a) : ExR C own' H' o x := by
  obtain ⟨a, oe, Ca, dd, vs, h1, h2, h3, h4, h5, h6, h7, h8⟩ := r
  exact ⟨a, oe, Ca, dd, vs, h1, h2, h3, h4, h5, xd _ _ h6, h7, h8.mono k up⟩
theorem SR.noXd (S : SR C own F H σ e g) {a : Addr} {fs : List (Str × V)} (h : H a = some (.xd fs)) : ¬ C.io a ∧ ∀ j, own j ≠ some a := by
  refine ⟨fun hi => ?_, fun j hj => ?_⟩
  · obtain ⟨o, q, m⟩ := S.io a hi
    rw [h] at q; cases q
    rcases m with ⟨_, z⟩ | ⟨_, z⟩ | ⟨_, z⟩ <;> cases z
  · obtain ⟨⟨xs, q⟩, _⟩ := S.on j a hj
    rw [h] at q; cases q
theorem SR.xdExt (S : SR C own F H σ e g) (x : ExtI C H H') : ∀ a fs, H a = some (.xd fs) → H' a = some (.xd fs) := fun a fs h => x a _ h (S.noXd h).1
theorem SR.ext (S : SR C own F H σ e g) (x : ExtI C H H') (io : ∀ a, C.io a → ∃ o, H' a = some o ∧ MutO o) (tb : Tabs C.tb H') (rg : ∀ r c, C.rg = some (r, c) → RngAt H' r c g') (po : ∀ r a b, C.po = some (r, a, b) → PolAt C.cm H' r a b g') : SR C own F H' σ e g' where
  len := S.len
  sl := fun i s hs => by
    have q := S.sl i s hs
    cases s with
    | un => trivial
    | ex z => exact q.mono (S.keep x) (S.xdExt x) fun _ a _ => a
    | sh d => obtain ⟨v, e1, e2⟩ := q; exact ⟨v, e1, S.rep x e2⟩
    | ow l =>
      obtain ⟨p, vs, e1, e2, e3, e4⟩ := q
      exact ⟨p, vs, e1, e2, x _ _ e3 (S.on i p e1).2.2, S.repL x e4⟩
    | rng => exact q
    | me => exact q
    | pol => exact q
  on := fun i p h => by
    obtain ⟨⟨xs, h1⟩, h2, h3⟩ := S.on i p h
    exact ⟨⟨xs, x _ _ h1 h3⟩, h2, h3⟩
  ph := S.ph
  inj := S.inj
  fin := S.fin
  h0 := fun a o h n => x _ _ (S.h0 a o h n) n
  fr := fun a o h => by
    obtain ⟨h1, h2, h3⟩ := S.fr a o h
    exact ⟨x _ _ h1 h3, h2, h3⟩
  io := io
  tb := tb
  ih := S.ih
  rg := fun r c h => by
    obtain ⟨h1, h2, h3, h4⟩ := S.rg r c h
    exact ⟨h1, h2, h3, rg r c h⟩
  po := fun r a b h => by
    obtain ⟨h1, h2, h3, h4⟩ := S.po r a b h
    exact ⟨h1, h2, h3, po r a b h⟩
theorem PolAt.same {cm : Str → Option Addr} {r a b : Addr} (R : PolAt cm H r a b g) (s : Same H H') : PolAt cm H' r a b g := ⟨R.ne, by
  obtain ⟨Cp, dx, h1, h2⟩ := R.at_
  exact ⟨Cp, dx, h1, s _ _ h2⟩, s _ _ R.ca, s _ _ R.cb⟩
theorem RngAt.same {r c : Addr} (R : RngAt H r c g) (s : Same H H') : RngAt H' r c g := ⟨R.ne, s _ _ R.at_, s _ _ R.ce, R.i0, R.b0, R.s0, R.s1, R.cl⟩
theorem SR.same (S : SR C own F H σ e g) (s : Same H H') : SR C own F H' σ e g :=
  S.ext (.of s) (fun a h => by obtain ⟨o, q, m⟩ := S.io a h; exact ⟨o, s _ _ q, m⟩) (S.tb.ext s) (fun r c h => (S.rg r c h).2.2.2.same s) fun r a b h => (S.po r a b h).2.2.2.same s
theorem SR.fresh (S : SR C own F H σ e g) {a : Addr} (h : H a = none) : C.Al own a := by
  refine ⟨.inr ?_, fun j hj => ?_, fun hi => ?_⟩
  · cases q : C.H0 a with
    | none => rfl
    | some o =>
      by_cases hi : C.io a
      · obtain ⟨xs, z, _⟩ := S.io a hi
        rw [h] at z; cases z
      · have z := S.h0 a o q hi
        rw [h] at z; cases z
  · obtain ⟨⟨xs, z⟩, _⟩ := S.on j a hj
    rw [h] at z; cases z
  · obtain ⟨xs, z, _⟩ := S.io a hi
    rw [h] at z; cases z
end
theorem PolAt.eq {cm : Str → Option Addr} {H H' : Hp} {r a b : Addr} {g : Rng} (R : PolAt cm H r a b g) (h1 : H' r = H r) (h2 : H' a = H a) (h3 : H' b = H b) : PolAt cm H' r a b g := ⟨R.ne, by
  obtain ⟨Cp, dx, q1, q2⟩ := R.at_
  exact ⟨Cp, dx, q1, h1.trans q2⟩, h2.trans R.ca, h3.trans R.cb⟩
theorem PolAt.upd {cm : Str → Option Addr} {H : Hp} {r a b p : Addr} {g : Rng} {o : HO} {xs : List V} (R : PolAt cm H r a b g) (h : H p = some (.lst xs)) : PolAt cm (upd H p o) r a b g := by
  obtain ⟨Cp, dx, q1, q2⟩ := R.at_
  refine R.eq (upd_ne fun z => ?_) (upd_ne fun z => ?_) (upd_ne fun z => ?_)
  · rw [z, h] at q2; cases q2
  · have := R.ca; rw [z, h] at this; cases this
  · have := R.cb; rw [z, h] at this; cases this
theorem SR.noPo {C : Ctx} {own : Own} {F H : Hp} {σ : L2.St} {e : En} {g : Rng} (S : SR C own F H σ e g) {r c : Addr} (h : C.rg = some (r, c)) {r' a b : Addr} {P : Prop} (z : C.po = some (r', a, b)) : P := by
  have := (S.po r' a b z).1
  rw [h] at this; cases this
def SameT (T : List (Addr × Str)) (H H' : Hp) : Prop := ∀ a o, H a = some o → (∀ p ∈ T, p.1 ≠ a) → H' a = some o
theorem SameT.of {T : List (Addr × Str)} {H H' : Hp} (s : Same H H') : SameT T H H' := fun a o h _ => s a o h
theorem SR.call {C : Ctx} {own : Own} {F H H' : Hp} {σ : L2.St} {e : En} {g : Rng} (S : SR C own F H σ e g) (s : SameT C.tb H H') (t : Tabs C.tb H') : ExtI C H H' ∧ SR C own F H' σ e g := by
  have x : ExtI C H H' := fun a o h n => s a o h fun p hp z => n (.inr ⟨p, hp, z⟩)
  have nt : ∀ a xs, H a = some (.lst xs) → ∀ p ∈ C.tb, p.1 ≠ a := fun a xs h p hp z => by
    obtain ⟨ps, h1, _⟩ := S.tb p hp
    rw [z, h] at h1; cases h1
  have R' : ∀ r c, C.rg = some (r, c) → RngAt H' r c g := fun r c h => by
    obtain ⟨_, _, _, R⟩ := S.rg r c h
    exact ⟨R.ne, s _ _ R.at_ (nt _ _ R.at_), s _ _ R.ce (nt _ _ R.ce), R.i0, R.b0, R.s0, R.s1, R.cl⟩
  have ntD : ∀ a xs, H a = some (.dT xs) → ∀ p ∈ C.tb, p.1 ≠ a := fun a xs h p hp z => by
    obtain ⟨ps, h1, _⟩ := S.tb p hp
    rw [z, h] at h1; cases h1
  have P' : ∀ r a b, C.po = some (r, a, b) → PolAt C.cm H' r a b g := fun r a b h => by
    obtain ⟨_, _, _, R⟩ := S.po r a b h
    obtain ⟨Cp, dx, h1, h2⟩ := R.at_
    exact ⟨R.ne, ⟨Cp, dx, h1, s _ _ h2 fun p hp z => by
      obtain ⟨ps, h3, _⟩ := S.tb p hp
      rw [z, h2] at h3; cases h3⟩, s _ _ R.ca (ntD _ _ R.ca), s _ _ R.cb (ntD _ _ R.cb)⟩
  refine ⟨x, S.ext x (fun a hi => ?_) t R' P'⟩
  rcases hi with (⟨c, h⟩ | ⟨r, b, h | h⟩) | ⟨p, hp, rfl⟩
  · exact ⟨_, (R' a c h).at_, .inl ⟨_, rfl⟩⟩
  · exact ⟨_, (P' _ _ _ h).ca, .inr (.inr ⟨_, rfl⟩)⟩
  · exact ⟨_, (P' _ _ _ h).cb, .inr (.inr ⟨_, rfl⟩)⟩
  · exact t.at_ hp
def RepX (g : G) (H : Hp) (A : Addr → Prop) (x : Exc) (c : Value) (dd : Option Addr) : Prop :=
  ∃ Ca d vs, (g.cm x.cls = some Ca ∧ XfOk g.K Ca x.ns) ∧ c = .ref Ca ∧ dd = some d ∧ H d = some (.xd (x.ns.zip vs)) ∧ x.ns.length = vs.length ∧ RepL g H A x.l vs
def OutE (C : Ctx) (own : Own) (F : Hp) (σ : L2.St) (e : En) (H : Hp) (r : Res (D × Rng)) (Q : VK) : Prop :=
  match r with
  | .ok (d, g') => ∀ H' v, ExtI C H H' → SR C own F H' σ e g' → Rep C.g H' (C.Al own) d v → Q v H'
  | .err x => ∀ H' c dd, ExtI C H H' → (∃ g', SR C own F H' σ e g') → RepX C.g H' (C.Al own) x c dd → C.W c dd σ H'
  | .stuck => False
def OutT (C : Ctx) (own : Own) (F : Hp) (σ : L2.St) (e : En) (H : Hp) (r : Res (Bool × Rng)) (Q : Bool → Hp → Prop) : Prop :=
  match r with
  | .ok (d, g') => ∀ H', ExtI C H H' → SR C own F H' σ e g' → Q d H'
  | .err x => ∀ H' c dd, ExtI C H H' → (∃ g', SR C own F H' σ e g') → RepX C.g H' (C.Al own) x c dd → C.W c dd σ H'
  | .stuck => False
def OutA (C : Ctx) (own : Own) (F : Hp) (σ : L2.St) (e : En) (H : Hp) (r : Res (List D × Rng)) (Q : List V → Hp → Prop) : Prop :=
  match r with
  | .ok (d, g') => ∀ H' v, ExtI C H H' → SR C own F H' σ e g' → RepL C.g H' (C.Al own) d v → Q v H'
  | .err x => ∀ H' c dd, ExtI C H H' → (∃ g', SR C own F H' σ e g') → RepX C.g H' (C.Al own) x c dd → C.W c dd σ H'
  | .stuck => False
def tD (C : Ctx) (f : ME) : TE := fun σ H Q => ∃ own F e g, SR C own F H σ e g ∧ OutE C own F σ e H (f e g) Q
def tDT (C : Ctx) (f : MT) : TT := fun σ H Q => ∃ own F e g, SR C own F H σ e g ∧ OutT C own F σ e H (f e g) Q
def tDA (C : Ctx) (f : MA) : TA := fun σ H Q => ∃ own F e g, SR C own F H σ e g ∧ OutA C own F σ e H (f e g) Q
def DE (C : Ctx) (x : Expr) (f : ME) : Prop := PE C.X x (tD C f)
def DT (C : Ctx) (x : Expr) (f : MT) : Prop := PT C.X x (tDT C f)
def DA (C : Ctx) (xs : List Expr) (f : MA) : Prop := PA C.X xs (tDA C f)
section
variable {X : Cx}
theorem pe_imp {x : Expr} {t t' : TE} (h : PE X x t) (i : ∀ σ H Q, t' σ H Q → t σ H Q) : PE X x t' := ⟨fun pins s σ H Q I q => h.run pins s σ H Q I (i σ H Q q)⟩
theorem pt_imp {x : Expr} {t t' : TT} (h : PT X x t) (i : ∀ σ H Q, t' σ H Q → t σ H Q) : PT X x t' := ⟨fun pins s σ H Q I q => h.run pins s σ H Q I (i σ H Q q)⟩
theorem pa_imp {x : List Expr} {t t' : TA} (h : PA X x t) (i : ∀ σ H Q, t' σ H Q → t σ H Q) : PA X x t' := ⟨fun pos pins s σ H Q I q => h.run pos pins s σ H Q I (i σ H Q q)⟩
theorem ps_imp {x : Stmt} {t t' : TS} (h : PS X x t) (i : ∀ D σ H, t' D σ H → t D σ H) : PS X x t' := ⟨fun pins s σ H D I q => h.run pins s σ H D I (i D σ H q)⟩
theorem pss_imp {x : List Stmt} {t t' : TS} (h : PSs X x t) (i : ∀ D σ H, t' D σ H → t D σ H) : PSs X x t' := ⟨fun pins s σ H D I q => h.run pins s σ H D I (i D σ H q)⟩
end
section
variable {C : Ctx} {own : Own} {F H H1 H' : Hp} {σ : L2.St} {e : En} {g g' : Rng}
theorem OutE.bindE {r : Res (D × Rng)} {k : D × Rng → Res (D × Rng)} {Q Q1 : VK} (h : OutE C own F σ e H (r.bind k) Q)
    (hq : ∀ d g1 H1 v, ExtI C H H1 → SR C own F H1 σ e g1 → Rep C.g H1 (C.Al own) d v → OutE C own F σ e H1 (k (d, g1)) Q → Q1 v H1) : OutE C own F σ e H r Q1 := by
  cases r with
  | ok a =>
    obtain ⟨d, g1⟩ := a
    intro H1 v x S r1
    refine hq d g1 H1 v x S r1 ?_
    have h' : OutE C own F σ e H (k (d, g1)) Q := h
    cases hk : k (d, g1) with
    | ok a =>
      rw [hk] at h'
      exact fun H2 w x2 => h' H2 w (x.trans x2)
    | err y =>
      rw [hk] at h'
      exact fun H2 c dd x2 => h' H2 c dd (x.trans x2)
    | stuck => rw [hk] at h'; exact h'
  | err y => exact h
  | stuck => exact h
theorem OutA.bindE {r : Res (D × Rng)} {k : D × Rng → Res (List D × Rng)} {Q : List V → Hp → Prop} {Q1 : VK} (h : OutA C own F σ e H (r.bind k) Q)
    (hq : ∀ d g1 H1 v, ExtI C H H1 → SR C own F H1 σ e g1 → Rep C.g H1 (C.Al own) d v → OutA C own F σ e H1 (k (d, g1)) Q → Q1 v H1) : OutE C own F σ e H r Q1 := by
  cases r with
  | ok a =>
    obtain ⟨d, g1⟩ := a
    intro H1 v x S r1
    refine hq d g1 H1 v x S r1 ?_
    have h' : OutA C own F σ e H (k (d, g1)) Q := h
    cases hk : k (d, g1) with
    | ok a =>
      rw [hk] at h'
      exact fun H2 w x2 => h' H2 w (x.trans x2)
    | err y =>
      rw [hk] at h'
      exact fun H2 c dd x2 => h' H2 c dd (x.trans x2)
    | stuck => rw [hk] at h'; exact h'
  | err y => exact h
  | stuck => exact h
theorem OutT.bindE {r : Res (D × Rng)} {k : D × Rng → Res (Bool × Rng)} {Q : Bool → Hp → Prop} {Q1 : VK} (h : OutT C own F σ e H (r.bind k) Q)
    (hq : ∀ d g1 H1 v, ExtI C H H1 → SR C own F H1 σ e g1 → Rep C.g H1 (C.Al own) d v → OutT C own F σ e H1 (k (d, g1)) Q → Q1 v H1) : OutE C own F σ e H r Q1 := by
  cases r with
  | ok a =>
    obtain ⟨d, g1⟩ := a
    intro H1 v x S r1
    refine hq d g1 H1 v x S r1 ?_
    have h' : OutT C own F σ e H (k (d, g1)) Q := h
    cases hk : k (d, g1) with
    | ok a =>
      rw [hk] at h'
      exact fun H2 x2 => h' H2 (x.trans x2)
    | err y =>
      rw [hk] at h'
      exact fun H2 c dd x2 => h' H2 c dd (x.trans x2)
    | stuck => rw [hk] at h'; exact h'
  | err y => exact h
  | stuck => exact h
theorem OutE.bindT {r : Res (Bool × Rng)} {k : Bool × Rng → Res (D × Rng)} {Q : VK} {Q1 : Bool → Hp → Prop} (h : OutE C own F σ e H (r.bind k) Q)
    (hq : ∀ d g1 H1, ExtI C H H1 → SR C own F H1 σ e g1 → OutE C own F σ e H1 (k (d, g1)) Q → Q1 d H1) : OutT C own F σ e H r Q1 := by
  cases r with
  | ok a =>
    obtain ⟨d, g1⟩ := a
    intro H1 x S
    refine hq d g1 H1 x S ?_
    have h' : OutE C own F σ e H (k (d, g1)) Q := h
    cases hk : k (d, g1) with
    | ok a =>
      rw [hk] at h'
      exact fun H2 w x2 => h' H2 w (x.trans x2)
    | err y =>
      rw [hk] at h'
      exact fun H2 c dd x2 => h' H2 c dd (x.trans x2)
    | stuck => rw [hk] at h'; exact h'
  | err y => exact h
  | stuck => exact h
theorem OutT.bindT {r : Res (Bool × Rng)} {k : Bool × Rng → Res (Bool × Rng)} {Q : Bool → Hp → Prop} {Q1 : Bool → Hp → Prop} (h : OutT C own F σ e H (r.bind k) Q)
    (hq : ∀ d g1 H1, ExtI C H H1 → SR C own F H1 σ e g1 → OutT C own F σ e H1 (k (d, g1)) Q → Q1 d H1) : OutT C own F σ e H r Q1 := by
  cases r with
  | ok a =>
    obtain ⟨d, g1⟩ := a
    intro H1 x S
    refine hq d g1 H1 x S ?_
    have h' : OutT C own F σ e H (k (d, g1)) Q := h
    cases hk : k (d, g1) with
    | ok a =>
      rw [hk] at h'
      exact fun H2 x2 => h' H2 (x.trans x2)
    | err y =>
      rw [hk] at h'
      exact fun H2 c dd x2 => h' H2 c dd (x.trans x2)
    | stuck => rw [hk] at h'; exact h'
  | err y => exact h
  | stuck => exact h
theorem OutE.bindA {r : Res (List D × Rng)} {k : List D × Rng → Res (D × Rng)} {Q : VK} {Q1 : List V → Hp → Prop} (h : OutE C own F σ e H (r.bind k) Q)
    (hq : ∀ d g1 H1 v, ExtI C H H1 → SR C own F H1 σ e g1 → RepL C.g H1 (C.Al own) d v → OutE C own F σ e H1 (k (d, g1)) Q → Q1 v H1) : OutA C own F σ e H r Q1 := by
  cases r with
  | ok a =>
    obtain ⟨d, g1⟩ := a
    intro H1 v x S r1
    refine hq d g1 H1 v x S r1 ?_
    have h' : OutE C own F σ e H (k (d, g1)) Q := h
    cases hk : k (d, g1) with
    | ok a =>
      rw [hk] at h'
      exact fun H2 w x2 => h' H2 w (x.trans x2)
    | err y =>
      rw [hk] at h'
      exact fun H2 c dd x2 => h' H2 c dd (x.trans x2)
    | stuck => rw [hk] at h'; exact h'
  | err y => exact h
  | stuck => exact h
theorem OutA.bindA {r : Res (List D × Rng)} {k : List D × Rng → Res (List D × Rng)} {Q : List V → Hp → Prop} {Q1 : List V → Hp → Prop} (h : OutA C own F σ e H (r.bind k) Q)
    (hq : ∀ d g1 H1 v, ExtI C H H1 → SR C own F H1 σ e g1 → RepL C.g H1 (C.Al own) d v → OutA C own F σ e H1 (k (d, g1)) Q → Q1 v H1) : OutA C own F σ e H r Q1 := by
  cases r with
  | ok a =>
    obtain ⟨d, g1⟩ := a
    intro H1 v x S r1
    refine hq d g1 H1 v x S r1 ?_
    have h' : OutA C own F σ e H (k (d, g1)) Q := h
    cases hk : k (d, g1) with
    | ok a =>
      rw [hk] at h'
      exact fun H2 w x2 => h' H2 w (x.trans x2)
    | err y =>
      rw [hk] at h'
      exact fun H2 c dd x2 => h' H2 c dd (x.trans x2)
    | stuck => rw [hk] at h'; exact h'
  | err y => exact h
  | stuck => exact h
end
def OutV (g : G) (H : Hp) (A : Addr → Prop) (r : Res D) (Q : VK) : Prop :=
  match r with
  | .ok d => ∀ H' v, Same H H' → Rep g H' (fun a => A a ∨ H a = none) d v → Q v H'
  | _ => False
def pureG {α : Type} (r : Res α) (g : Rng) : Res (α × Rng) := r.bind fun d => .ok (d, g)
section
variable {C : Ctx} {own : Own} {F H H1 H' : Hp} {σ : L2.St} {e : En} {g g' : Rng}
theorem OutE.toV {r : Res D} {Q : VK} (S : SR C own F H σ e g) (nx : ∀ x, r ≠ .err x) (h : OutE C own F σ e H (pureG r g) Q) : OutV C.g H (C.Al own) r Q := by
  cases r with
  | ok d =>
    intro H' v s rp
    refine h H' v (.of s) (S.same s) (rp.mono (.same fun _ _ z => z) fun a q ⟨o, z⟩ => ?_)
    rcases q with q | q
    · exact q
    · exact S.fresh q
  | err x => exact (nx x rfl).elim
  | stuck => exact h
theorem OutE.now {d : D} {v : V} {Q : VK} (S : SR C own F H σ e g) (h : OutE C own F σ e H (.ok (d, g)) Q) (r : Rep C.g H (C.Al own) d v) : Q v H := h H v (.refl H) S r
end
end DL
set_option Elab.async false
set_option linter.all false
set_option maxRecDepth 100000
namespace DL
open PySem L2
def OpD (g : G) (r : R2) (f : D → D → Res D) : Prop := ∀ x y v w H A Q, Rep g H A x v → Rep g H A y w → OutV g H A (f x y) Q → r v w H Q
def UnD (g : G) (r : V → Hp → VK → Prop) (f : D → Res D) : Prop := ∀ x v H A Q, Rep g H A x v → OutV g H A (f x) Q → r v H Q
def CallD (g : G) (r : List V → Hp → VK → Prop) (f : List D → Res D) : Prop := ∀ xs vs H A Q, RepL g H A xs vs → OutV g H A (f xs) Q → r vs H Q
section
variable {g : G} {H : Hp} {A : Addr → Prop}
theorem Rep.toNon {v : V} (h : Rep g H A .non v) : v = .non := by rw [Rep] at h; exact h
theorem Rep.toInt {i : Int} {v : V} (h : Rep g H A (.int i) v) : v = .int i := by rw [Rep] at h; exact h
theorem Rep.toBl {i : Bool} {v : V} (h : Rep g H A (.bl i) v) : v = .bl i := by rw [Rep] at h; exact h
theorem Rep.toStr {i : Str} {v : V} (h : Rep g H A (.str i) v) : v = .str i := by rw [Rep] at h; exact h
theorem Rep.toTup {l : List D} {v : V} (h : Rep g H A (.tup l) v) : ∃ a vs, v = .ref a ∧ SqT g.K H a vs ∧ RepL g H A l vs := by rw [Rep] at h; exact h
theorem Rep.toLst {l : List D} {v : V} (h : Rep g H A (.lst l) v) : ∃ a vs, v = .ref a ∧ A a ∧ H a = some (.lst vs) ∧ RepL g H A l vs := by rw [Rep] at h; exact h
theorem Rep.toIns {c : Str} {ns : List Str} {l : List D} {v : V} (h : Rep g H A (.ins c ns l) v) : ∃ a C dx vs, v = .ref a ∧ A a ∧ g.cm c = some C ∧ H a = some (.ins C dx (ns.zip vs)) ∧ ns.length = vs.length ∧ RepL g H A l vs := by rw [Rep] at h; exact h
theorem Rep.non_ : Rep g H A .non .non := by rw [Rep]
theorem Rep.int_ (i : Int) : Rep g H A (.int i) (.int i) := by rw [Rep]
theorem Rep.bl_ (i : Bool) : Rep g H A (.bl i) (.bl i) := by rw [Rep]
theorem Rep.str_ (i : Str) : Rep g H A (.str i) (.str i) := by rw [Rep]
theorem Rep.tup_ {l : List D} {a : Addr} {vs : List V} (h : SqT g.K H a vs) (hl : RepL g H A l vs) : Rep g H A (.tup l) (.ref a) := by rw [Rep]; exact ⟨a, vs, rfl, h, hl⟩
theorem Rep.lst_ {l : List D} {a : Addr} {vs : List V} (ha : A a) (h : H a = some (.lst vs)) (hl : RepL g H A l vs) : Rep g H A (.lst l) (.ref a) := by rw [Rep]; exact ⟨a, vs, rfl, ha, h, hl⟩
theorem RepL.toNil {vs : List V} (h : RepL g H A [] vs) : vs = [] := by rw [RepL] at h; exact h
theorem RepL.toCons {d : D} {l : List D} {vs : List V} (h : RepL g H A (d :: l) vs) : ∃ v r, vs = v :: r ∧ Rep g H A d v ∧ RepL g H A l r := by rw [RepL] at h; exact h
theorem OutV.now {d : D} {v : V} {Q : VK} (h : OutV g H A (.ok d) Q) (r : Rep g H A d v) : Q v H :=
  h H v (fun _ _ z => z) (r.mono (.same fun _ _ z => z) fun a q _ => .inl q)
theorem OutV.int {i : Int} {Q : VK} (h : OutV g H A (.ok (.int i)) Q) : Q (.int i) H := h.now (.int_ i)
theorem OutV.bl {i : Bool} {Q : VK} (h : OutV g H A (.ok (.bl i)) Q) : Q (.bl i) H := h.now (.bl_ i)
theorem OutV.str {i : Str} {Q : VK} (h : OutV g H A (.ok (.str i)) Q) : Q (.str i) H := h.now (.str_ i)
theorem OutV.newL {l : List D} {vs : List V} {p : Addr} {Q : VK} (h : OutV g H A (.ok (.lst l)) Q) (n : H p = none) (r : RepL g H A l vs) : Q (.ref p) (upd H p (.lst vs)) := by
  have s : Same H (upd H p (.lst vs)) := fun a o e => by rw [upd_ne (ne_of_none e n)]; exact e
  exact h _ _ s (.lst_ (.inr n) upd_same (r.mono (.same s) fun a q _ => .inl q))
theorem OutV.newT {l : List D} {vs : List V} {p : Addr} {Q : VK} (h : OutV g H A (.ok (.tup l)) Q) (n : H p = none) (r : RepL g H A l vs) : Q (.ref p) (upd H p (.tup vs)) := by
  have s : Same H (upd H p (.tup vs)) := fun a o e => by rw [upd_ne (ne_of_none e n)]; exact e
  exact h _ _ s (.tup_ (.inl (.inl upd_same)) (r.mono (.same s) fun a q _ => .inl q))
end
def eVar (i : Nat) : ME := fun e g => match e[i]? with
  | some (.sh d) => .ok (d, g)
  | _ => .stuck
def eC (d : D) : ME := fun _ g => .ok (d, g)
def eOp (f : D → D → Res D) (a b : ME) : ME := fun e g => (a e g).bind fun p => (b e p.2).bind fun q => pureG (f p.1 q.1) q.2
def eUn (f : D → Res D) (a : ME) : ME := fun e g => (a e g).bind fun p => pureG (f p.1) p.2
def eTest (a : ME) : MT := fun e g => (a e g).bind fun p => match p.1 with
  | .bl b => .ok (b, p.2)
  | _ => .stuck
def aNil : MA := fun _ g => .ok ([], g)
def aCons (a : ME) (b : MA) : MA := fun e g => (a e g).bind fun p => (b e p.2).bind fun q => .ok (p.1 :: q.1, q.2)
def eCall (f : List D → Res D) (a : MA) : ME := fun e g => (a e g).bind fun p => pureG (f p.1) p.2
section
variable {C : Ctx} {x a b : Expr} {fa fb : ME} {pos : Pos}
theorem de_var {i : Nat} (h : PE C.X x (tVar i)) : DE C x (eVar i) := pe_imp h fun σ H Q ⟨own, F, e, g, S, o⟩ => by
  unfold eVar at o
  cases hs : e[i]? with
  | none => rw [hs] at o; exact o.elim
  | some s =>
    rw [hs] at o
    cases s with
    | sh d =>
      obtain ⟨v, e1, e2⟩ := S.sl i _ hs
      exact ⟨v, e1, OutE.now S o e2⟩
    | un => exact o.elim
    | ex z => exact o.elim
    | ow l => exact o.elim
    | rng => exact o.elim
    | me => exact o.elim
    | pol => exact o.elim
theorem de_const {d : D} {v : V} (h : PE C.X x (tC v)) (r : ∀ H A, Rep C.g H A d v) : DE C x (eC d) := pe_imp h fun σ H Q ⟨own, F, e, g, S, o⟩ => OutE.now S o (r _ _)
theorem de_int {i : Int} {j : Nat} : DE C (.Constant (.int i) j pos) (eC (.int i)) := de_const pe_int fun _ _ => .int_ i
theorem de_bl {i : Bool} {j : Nat} : DE C (.Constant (.bool i) j pos) (eC (.bl i)) := de_const pe_bl fun _ _ => .bl_ i
theorem de_non {j : Nat} : DE C (.Constant .none j pos) (eC .non) := de_const pe_non fun _ _ => .non_
theorem de_str {i : Str} {j : Nat} : DE C (.Constant (.str i) j pos) (eC (.str i)) := de_const pe_str fun _ _ => .str_ i
theorem tD_op {r : R2} {f : D → D → Res D} (hr : OpD C.g r f) (nx : ∀ x y z, f x y ≠ .err z) : ∀ σ H Q, tD C (eOp f fa fb) σ H Q → tOp r (tD C fa) (tD C fb) σ H Q :=
  fun σ H Q ⟨own, F, e, g, S, o⟩ => ⟨own, F, e, g, S, OutE.bindE o fun x g1 H1 v x1 S1 r1 o1 => ⟨own, F, e, g1, S1, OutE.bindE o1 fun y g2 H2 w x2 S2 r2 o2 => hr x y v w H2 _ Q (S1.rep x2 r1) r2 (o2.toV S2 (nx _ _))⟩⟩
theorem de_bin {op : Operator} {r : R2} {f : D → D → Res D} (ho : OpR C.X (binaryOp op) r) (hr : OpD C.g r f) (nx : ∀ x y z, f x y ≠ .err z) (ha : DE C a fa) (hb : DE C b fb) : DE C (.BinOp a op b pos) (eOp f fa fb) :=
  pe_imp (pe_op ho ha hb) (tD_op hr nx)
theorem de_cmp {op : CmpOp} {r : R2} {f : D → D → Res D} (ho : OpR C.X (compareOp op) r) (hr : OpD C.g r f) (nx : ∀ x y z, f x y ≠ .err z) (ha : DE C a fa) (hb : DE C b fb) (hm : behindInMarks op b = false) : DE C (.Compare a [op] [b] pos) (eOp f fa fb) :=
  pe_imp (pe_cmpR ho ha hb hm) (tD_op hr nx)
theorem tDT_test {t : TE} {f : ME} (h : ∀ σ H Q, tD C f σ H Q → t σ H Q) : ∀ σ H Q, tDT C (eTest f) σ H Q → tTest t σ H Q :=
  fun σ H Q ⟨own, F, e, g, S, o⟩ => h σ H _ ⟨own, F, e, g, S, OutT.bindE o fun d g1 H1 v x1 S1 r1 o1 => by
    cases d with
    | bl b => exact ⟨b, r1.toBl, o1 H1 (.refl H1) S1⟩
    | _ => exact o1.elim⟩
theorem dt_cmp {op : CmpOp} {r : R2} {f : D → D → Res D} (ho : OpR C.X (compareOp op) r) (hr : OpD C.g r f) (nx : ∀ x y z, f x y ≠ .err z) (ha : DE C a fa) (hb : DE C b fb) (hm : behindInMarks op b = false) : DT C (.Compare a [op] [b] pos) (eTest (eOp f fa fb)) :=
  pt_imp (pt_cmpR ho ha hb hm) (tDT_test (tD_op hr nx))
theorem dt_val (ha : DE C a fa) (he : ∀ whole, isTrue a C.X.env whole = (do let v ← whole; standAt a.pos; holding [v] (truthy v)) := by intro _; rfl) : DT C a (eTest fa) :=
  pt_imp (pt_val ha he) (tDT_test fun _ _ _ h => h)
def tAndM (a b : MT) : MT := fun e g => (a e g).bind fun p => if p.1 = true then b e p.2 else .ok (false, p.2)
def tOrM (a b : MT) : MT := fun e g => (a e g).bind fun p => if p.1 = true then .ok (true, p.2) else b e p.2
def tNotM (a : MT) : MT := fun e g => (a e g).bind fun p => .ok (!p.1, p.2)
def eIf (c : MT) (a b : ME) : ME := fun e g => (c e g).bind fun p => if p.1 = true then a e p.2 else b e p.2
def DW (C : Ctx) (x : Expr) (f : MT) : Prop := PW C.X x (tDT C f)
theorem pw_imp {X : Cx} {x : Expr} {t t' : TT} (h : PW X x t) (i : ∀ σ H Q, t' σ H Q → t σ H Q) : PW X x t' := ⟨fun wh pins s σ H Q I q => h.run wh pins s σ H Q I (i σ H Q q)⟩
variable {ta tb : MT} {rest : List Expr}
theorem dw_and1 (ha : DT C a ta) : DW C (.BoolOp .And [a] pos) ta := pw_and1 ha
theorem dw_or1 (ha : DT C a ta) : DW C (.BoolOp .Or [a] pos) ta := pw_or1 ha
theorem dw_and (ha : DT C a ta) (hb : DW C (.BoolOp .And (b :: rest) pos) tb) : DW C (.BoolOp .And (a :: b :: rest) pos) (tAndM ta tb) :=
  pw_imp (pw_and ha hb) fun σ H Q ⟨own, F, e, g, S, o⟩ => ⟨own, F, e, g, S, OutT.bindT o fun d g1 H1 x1 S1 o1 => by
    cases d with
    | true => exact ⟨own, F, e, g1, S1, o1⟩
    | false => exact o1 H1 (.refl H1) S1⟩
theorem dw_or (ha : DT C a ta) (hb : DW C (.BoolOp .Or (b :: rest) pos) tb) : DW C (.BoolOp .Or (a :: b :: rest) pos) (tOrM ta tb) :=
  pw_imp (pw_or ha hb) fun σ H Q ⟨own, F, e, g, S, o⟩ => ⟨own, F, e, g, S, OutT.bindT o fun d g1 H1 x1 S1 o1 => by
    cases d with
    | false => exact ⟨own, F, e, g1, S1, o1⟩
    | true => exact o1 H1 (.refl H1) S1⟩
theorem DW.pt (h : DW C x ta) : DT C x ta := PW.pt h
theorem dt_not (ha : DT C a ta) : DT C (.UnaryOp .Not a pos) (tNotM ta) :=
  pt_imp (pt_not ha) fun σ H Q ⟨own, F, e, g, S, o⟩ => ⟨own, F, e, g, S, OutT.bindT o fun d g1 H1 x1 S1 o1 => o1 H1 (.refl H1) S1⟩
theorem de_ifExp {c : Expr} {tc : MT} (hc : DT C c tc) (ha : DE C a fa) (hb : DE C b fb) : DE C (.IfExp c a b pos) (eIf tc fa fb) :=
  pe_imp (pe_ifExp hc ha hb) fun σ H Q ⟨own, F, e, g, S, o⟩ => ⟨own, F, e, g, S, OutE.bindT o fun d g1 H1 x1 S1 o1 => by
    cases d with
    | true => exact ⟨own, F, e, g1, S1, o1⟩
    | false => exact ⟨own, F, e, g1, S1, o1⟩⟩
def eAnd (a b : ME) : ME := fun e g => (a e g).bind fun p => match p.1 with
  | .bl true => b e p.2
  | .bl false => .ok (.bl false, p.2)
  | _ => .stuck
theorem de_one {op : BoolOp} (ha : DE C a fa) : DE C (.BoolOp op [a] pos) fa := pe_one ha
theorem de_and (ha : DE C a fa) (hb : DE C (.BoolOp .And (b :: rest) pos) fb) : DE C (.BoolOp .And (a :: b :: rest) pos) (eAnd fa fb) :=
  pe_imp (pe_and ha hb) fun σ H Q ⟨own, F, e, g, S, o⟩ => ⟨own, F, e, g, S, OutE.bindE o fun d g1 H1 v x1 S1 r1 o1 => by
    cases d with
    | bl c =>
      refine ⟨c, r1.toBl, ?_⟩
      cases c with
      | true => exact ⟨own, F, e, g1, S1, o1⟩
      | false => exact OutE.now S1 o1 (.bl_ _)
    | _ => exact o1.elim⟩
theorem de_un {op : UnaryOp} {r : V → Hp → VK → Prop} {f : D → Res D} (ho : UnR C.X (unaryOp op) r) (hr : UnD C.g r f) (nx : ∀ x z, f x ≠ .err z) (ha : DE C a fa) (h : ∀ {t : TE}, PE C.X a t → PE C.X (.UnaryOp op a pos) (tUn r t)) : DE C (.UnaryOp op a pos) (eUn f fa) :=
  pe_imp (h ha) fun σ H Q ⟨own, F, e, g, S, o⟩ => ⟨own, F, e, g, S, OutE.bindE o fun d g1 H1 v x1 S1 r1 o1 => hr d v H1 _ Q r1 (o1.toV S1 (nx _))⟩
theorem da_nil : DA C [] aNil := pa_imp pa_nil fun σ H Q ⟨own, F, e, g, S, o⟩ => o H [] (.refl H) S .nil
theorem da_cons {es : List Expr} {fr : MA} (ha : DE C a fa) (hr : DA C es fr) (hs : starEach (a :: es) C.X.env = (false, eval a C.X.env) :: starEach es C.X.env := by rfl) : DA C (a :: es) (aCons fa fr) :=
  pa_imp (pa_cons ha hr hs) fun σ H Q ⟨own, F, e, g, S, o⟩ => ⟨own, F, e, g, S, OutA.bindE o fun d g1 H1 v x1 S1 r1 o1 => ⟨own, F, e, g1, S1, OutA.bindA o1 fun l g2 H2 vs x2 S2 r2 o2 => o2 H2 (v :: vs) (.refl H2) S2 (.cons (S1.rep x2 r1) r2)⟩⟩
def eTup (a : MA) : ME := fun e g => (a e g).bind fun p => if p.1.length ≤ 1000 then .ok (.tup p.1, p.2) else .stuck
theorem le_line {n : Nat} (h : n ≤ 1000) : n ≤ sizeLine := Nat.le_trans h (by decide)
theorem pureG_ok {d : D} {g : Rng} : (.ok (d, g) : Res (D × Rng)) = pureG (.ok d) g := rfl
theorem de_tup {es : List Expr} {fs : MA} (h : ∀ {t : TA}, PA C.X es t → PE C.X x (tTup t)) (ha : DA C es fs) : DE C x (eTup fs) :=
  pe_imp (h ha) fun σ H Q ⟨own, F, e, g, S, o⟩ => ⟨own, F, e, g, S, OutE.bindA o fun l g1 H1 vs x1 S1 r1 o1 => by
    by_cases hl : l.length ≤ 1000
    · simp only [hl, if_true] at o1
      rw [pureG_ok] at o1
      exact ⟨by rw [← r1.length]; exact le_line hl, fun p hp => (o1.toV S1 (by intro z h; cases h)).newT hp r1⟩
    · simp only [hl, if_false] at o1
      exact o1.elim⟩
theorem tD_call {r : List V → Hp → VK → Prop} {f : List D → Res D} {fs : MA} (hr : CallD C.g r f) (nx : ∀ x z, f x ≠ .err z) : ∀ σ H Q, tD C (eCall f fs) σ H Q → tCB r (tDA C fs) σ H Q :=
  fun σ H Q ⟨own, F, e, g, S, o⟩ => ⟨own, F, e, g, S, OutE.bindA o fun l g1 H1 vs x1 S1 r1 o1 => hr l vs H1 _ Q r1 (o1.toV S1 (nx _))⟩
theorem de_ix {r : R2} {f : D → D → Res D} (hr : IxR C.X r) (hd : OpD C.g r f) (nx : ∀ x y z, f x y ≠ .err z) (ha : DE C a fa) (hb : DE C b fb) (hs : PlainIx b) : DE C (.Subscript a b pos) (eOp f fa fb) :=
  pe_imp (pe_ix hr ha hb hs) (tD_op hd nx)
end
end DL
set_option Elab.async false
set_option linter.all false
set_option maxRecDepth 100000
namespace DL
open PySem L2
mutual
def D.py : D → PyData
  | .non => .none
  | .bl b => .bool b
  | .int i => .int i
  | .str x => .str x
  | .tup l => .tuple (D.pyL l)
  | .lst l => .list (D.pyL l)
  | .dic _ _ => .dict []
  | .ins _ _ _ => .dict []
  | .key _ => .dict []
  | .dcT _ _ => .dict []
def D.pyL : List D → List PyData
  | [] => []
  | d :: l => d.py :: D.pyL l
end
mutual
theorem rep_dp {g : G} {H : Hp} {A : Addr → Prop} : ∀ {d : D} {v : V}, d.py.canLay0 = true → Rep g H A d v → Dp g.K H v d.py
  | .non, v, _, h => by rw [Rep] at h; subst h; rw [D.py]; exact .non
  | .bl b, v, _, h => by rw [Rep] at h; subst h; rw [D.py]; exact .bl b
  | .int i, v, _, h => by rw [Rep] at h; subst h; rw [D.py]; exact .int i
  | .str i, v, _, h => by rw [Rep] at h; subst h; rw [D.py]; exact .str i
  | .tup l, v, c, h => by
    rw [Rep] at h; obtain ⟨a, vs, rfl, h1, h2⟩ := h
    rw [D.py, PyData.canLay0] at c
    rw [D.py]; exact .tup h1 (rep_dpL c h2)
  | .lst l, v, c, h => by
    rw [Rep] at h; obtain ⟨a, vs, rfl, h0, h1, h2⟩ := h
    rw [D.py, PyData.canLay0] at c
    rw [D.py]; exact .lst (SqL.of h1) (rep_dpL c h2)
  | .dic _ _, v, c, h => by rw [D.py, PyData.canLay0] at c; cases c
  | .ins _ _ _, v, c, h => by rw [D.py, PyData.canLay0] at c; cases c
  | .key _, v, c, h => by rw [D.py, PyData.canLay0] at c; cases c
  | .dcT _ _, v, c, h => by rw [D.py, PyData.canLay0] at c; cases c
theorem rep_dpL {g : G} {H : Hp} {A : Addr → Prop} : ∀ {l : List D} {vs : List V}, PyData.canLayAll0 (D.pyL l) = true → RepL g H A l vs → DpAll g.K H vs (D.pyL l)
  | [], vs, _, h => by rw [RepL] at h; subst h; rw [D.pyL]; exact .nil
  | d :: l, vs, c, h => by
    rw [RepL] at h; obtain ⟨v, r, rfl, h1, h2⟩ := h
    rw [D.pyL, PyData.canLayAll0, Bool.and_eq_true] at c
    rw [D.pyL]; exact .cons (rep_dp c.1 h1) (rep_dpL c.2 h2)
end
theorem dp_of {g : G} {H : Hp} {A : Addr → Prop} {d : D} {v : V} (s : SeqAt.shaped d.py = true) (h : Rep g H A d v) : Dp g.K H v d.py := rep_dp (SeqAt.canLay_of_shaped s) h
def dII (k : Int → Int → Res D) : D → D → Res D := fun x y => match x, y with
  | .int i, .int j => k i j
  | _, _ => .stuck
theorem opD_I0 {g : G} (k : Int → Int → V) (kd : Int → Int → D) (hk : ∀ i j H A, Rep g H A (kd i j) (k i j)) : OpD g (rI0 k) (dII fun i j => .ok (kd i j)) := fun x y v w H A Q rx ry o => by
  cases x <;> cases y <;> first | exact o.elim | skip
  exact ⟨_, _, rx.toInt, ry.toInt, OutV.now o (hk _ _ _ _)⟩
theorem opD_I {g : G} (c : Int → Int → Prop) [∀ i j, Decidable (c i j)] (k : Int → Int → V) (kd : Int → Int → D) (hk : ∀ i j H A, Rep g H A (kd i j) (k i j)) : OpD g (rI c k) (dII fun i j => if c i j then .ok (kd i j) else .stuck) := fun x y v w H A Q rx ry o => by
  cases x <;> cases y <;> first | exact o.elim | skip
  rename_i i j
  by_cases hc : c i j
  · have o' : OutV g H A (if c i j then .ok (kd i j) else .stuck) Q := o
    rw [if_pos hc] at o'
    exact ⟨_, _, rx.toInt, ry.toInt, hc, OutV.now o' (hk _ _ _ _)⟩
  · have o' : OutV g H A (if c i j then .ok (kd i j) else .stuck) Q := o
    rw [if_neg hc] at o'
    exact o'.elim
def dSub : D → D → Res D := dII fun i j => .ok (.int (i - j))
instance (i j : Int) : Decidable (CMulW i j) := inferInstanceAs (Decidable (_ < _))
instance (i j : Int) : Decidable (CDivW i j) := inferInstanceAs (Decidable (_ ∧ _))
instance (i j : Int) : Decidable (CPow i j) := inferInstanceAs (Decidable (_ ∧ _ ∧ _))
def dFDiv : D → D → Res D := dII fun i j => if CDivW i j then .ok (.int (i / j)) else .stuck
def dMod : D → D → Res D := dII fun i j => if 0 < j then .ok (.int (i % j)) else .stuck
def dPow : D → D → Res D := dII fun i j => if CPow i j then .ok (.int (i ^ j.toNat)) else .stuck
def dLtI : D → D → Res D := dII fun i j => .ok (.bl (decide (i < j)))
def dGt : D → D → Res D := dII fun i j => .ok (.bl (decide (j < i)))
def dGe : D → D → Res D := dII fun i j => .ok (.bl (decide (j ≤ i)))
def dAdd : D → D → Res D := fun x y => match x, y with
  | .int i, .int j => .ok (.int (i + j))
  | .str i, .str j => if i.length + j.length ≤ 16777216 then .ok (.str (i ++ j)) else .stuck
  | .tup i, .tup j => if i.length + j.length ≤ 1000 then .ok (.tup (i ++ j)) else .stuck
  | .lst i, .lst j => if i.length + j.length ≤ 1000 then .ok (.lst (i ++ j)) else .stuck
  | _, _ => .stuck
def dMul : D → D → Res D := fun x y => match x, y with
  | .int i, .int j => if CMulW i j then .ok (.int (i * j)) else .stuck
  | .lst i, .int j => if 0 ≤ j ∧ j ≤ 1000 ∧ i.length * j.toNat ≤ 1000 then .ok (.lst (List.replicate j.toNat i).flatten) else .stuck
  | _, _ => .stuck
def dEq : D → D → Res D := fun x y => if SeqAt.shaped x.py = true ∧ SeqAt.shaped y.py = true then .ok (.bl (PyData.eqv x.py y.py)) else .stuck
def dNe : D → D → Res D := fun x y => if SeqAt.shaped x.py = true ∧ SeqAt.shaped y.py = true then .ok (.bl (!PyData.eqv x.py y.py)) else .stuck
def D.isNon : D → Bool
  | .non => true
  | _ => false
def dIsN : D → D → Res D := fun x y => match y with
  | .non => .ok (.bl x.isNon)
  | _ => .stuck
theorem rep_non_iff {g : G} {H : Hp} {A : Addr → Prop} {d : D} {v : V} (h : Rep g H A d v) : decide (v = .non) = d.isNon := by
  cases d with
  | non => rw [h.toNon]; rfl
  | bl b => rw [h.toBl]; rfl
  | int b => rw [h.toInt]; rfl
  | str b => rw [h.toStr]; rfl
  | tup b => obtain ⟨a, vs, rfl, _⟩ := h.toTup; rfl
  | lst b => obtain ⟨a, vs, rfl, _⟩ := h.toLst; rfl
  | dic k b => rw [Rep] at h; obtain ⟨a, vs, rfl, _⟩ := h; rfl
  | ins c n b => obtain ⟨a, _, _, vs, rfl, _⟩ := h.toIns; rfl
  | key k => rw [Rep] at h; obtain ⟨a, rfl, _⟩ := h; rfl
  | dcT k b => rw [Rep] at h; obtain ⟨a, vs, rfl, _⟩ := h; rfl
theorem repL_rep {g : G} {H : Hp} {A : Addr → Prop} {l : List D} {vs : List V} (h : RepL g H A l vs) : ∀ n : Nat, RepL g H A (List.replicate n l).flatten (List.replicate n vs).flatten
  | 0 => by simp; exact RepL.nil
  | n + 1 => by
    rw [List.replicate_succ, List.replicate_succ, List.flatten_cons, List.flatten_cons]
    exact h.append (repL_rep h n)
theorem RepL.empty_iff {g : G} {H : Hp} {A : Addr → Prop} {l : List D} {vs : List V} (h : RepL g H A l vs) : l = [] ↔ vs = [] := by
  have := h.length
  rw [← List.length_eq_zero_iff, ← List.length_eq_zero_iff, this]
section
variable {X : Cx} {g : G}
def rAddD (K : PySem.W.Frag) : R2 := fun x y H Q => rI0 (fun i j => .int (i + j)) x y H Q ∨ (∃ i j, x = .str i ∧ y = .str j ∧ i.length + j.length ≤ sizeLine ∧ Q (.str (i ++ j)) H) ∨ rCatA K x y H Q ∨ rCat x y H Q
theorem or_addD : OpR X (binaryOp .Add) (rAddD X.K) := op_add.or (op_add_str.or (op_catA.or op_cat))
theorem rep_cat_nil {g : G} {H : Hp} {A : Addr → Prop} {l : List D} {a : Addr} {vs : List V} (h : SqT g.K H a vs) (r : RepL g H A l vs) : Rep g H A (.tup (l ++ [])) (.ref a) := by
  rw [List.append_nil]; exact .tup_ h r
theorem opD_add : OpD g (rAddD g.K) dAdd := fun x y v w H A Q rx ry o => by
  cases x <;> cases y <;> first | exact o.elim | skip
  · exact .inl ⟨_, _, rx.toInt, ry.toInt, OutV.int o⟩
  · rename_i i j
    have o' : OutV g H A (if i.length + j.length ≤ 16777216 then .ok (.str (i ++ j)) else .stuck) Q := o
    by_cases hl : i.length + j.length ≤ 16777216
    · rw [if_pos hl] at o'
      exact .inr (.inl ⟨_, _, rx.toStr, ry.toStr, hl, OutV.str o'⟩)
    · rw [if_neg hl] at o'; exact o'.elim
  · rename_i i j
    obtain ⟨a, vs, rfl, h1, h2⟩ := rx.toTup
    obtain ⟨b, ws, rfl, h3, h4⟩ := ry.toTup
    have o' : OutV g H A (if i.length + j.length ≤ 1000 then .ok (.tup (i ++ j)) else .stuck) Q := o
    by_cases hl : i.length + j.length ≤ 1000
    · rw [if_pos hl] at o'
      refine .inr (.inr (.inl ⟨a, b, vs, ws, rfl, rfl, h1, h3, by rw [← h2.length, ← h4.length]; exact le_line hl, fun e => ?_, fun _ e => ?_, fun _ _ p hp => o'.newT hp (h2.append h4)⟩))
      · have ei := h2.empty_iff.mpr e
        subst ei
        exact o'.now (.tup_ h3 h4)
      · have ej := h4.empty_iff.mpr e
        subst ej
        exact o'.now (rep_cat_nil h1 h2)
    · rw [if_neg hl] at o'; exact o'.elim
  · rename_i i j
    obtain ⟨a, vs, rfl, h0, h1, h2⟩ := rx.toLst
    obtain ⟨b, ws, rfl, h3, h4, h5⟩ := ry.toLst
    have o' : OutV g H A (if i.length + j.length ≤ 1000 then .ok (.lst (i ++ j)) else .stuck) Q := o
    by_cases hl : i.length + j.length ≤ 1000
    · rw [if_pos hl] at o'
      exact .inr (.inr (.inr ⟨a, b, vs, ws, rfl, rfl, h1, h4, by rw [← h2.length, ← h5.length]; exact le_line hl, fun p hp => o'.newL hp (h2.append h5)⟩))
    · rw [if_neg hl] at o'; exact o'.elim
def rMulD : R2 := fun x y H Q => rI CMulW (fun i j => .int (i * j)) x y H Q ∨ rRep x y H Q
theorem or_mulD : OpR X (binaryOp .Mult) rMulD := op_mulW.or op_rep
theorem opD_mul : OpD g rMulD dMul := fun x y v w H A Q rx ry o => by
  cases x <;> cases y <;> first | exact o.elim | skip
  · rename_i i j
    have o' : OutV g H A (if CMulW i j then .ok (.int (i * j)) else .stuck) Q := o
    by_cases hl : CMulW i j
    · rw [if_pos hl] at o'
      exact .inl ⟨_, _, rx.toInt, ry.toInt, hl, OutV.int o'⟩
    · rw [if_neg hl] at o'; exact o'.elim
  · rename_i i j
    obtain ⟨a, vs, rfl, h0, h1, h2⟩ := rx.toLst
    have o' : OutV g H A (if 0 ≤ j ∧ j ≤ 1000 ∧ i.length * j.toNat ≤ 1000 then .ok (.lst (List.replicate j.toNat i).flatten) else .stuck) Q := o
    by_cases hl : 0 ≤ j ∧ j ≤ 1000 ∧ i.length * j.toNat ≤ 1000
    · rw [if_pos hl] at o'
      exact .inr ⟨a, j, vs, rfl, ry.toInt, h1, by omega, by omega, by rw [← h2.length]; exact le_line hl.2.2, fun p hp => o'.newL hp (repL_rep h2 _)⟩
    · rw [if_neg hl] at o'; exact o'.elim
theorem opD_sub : OpD g (rI0 fun i j => .int (i - j)) dSub := opD_I0 _ (fun i j => .int (i - j)) fun _ _ _ _ => .int_ _
theorem opD_fdiv : OpD g (rI CDivW fun i j => .int (i / j)) dFDiv := opD_I _ _ (fun i j => .int (i / j)) fun _ _ _ _ => .int_ _
theorem opD_mod : OpD g (rI (fun _ j => 0 < j) fun i j => .int (i % j)) dMod := opD_I (fun _ j => 0 < j) _ (fun i j => .int (i % j)) fun _ _ _ _ => .int_ _
theorem opD_pow : OpD g (rI CPow fun i j => .int (i ^ j.toNat)) dPow := opD_I _ _ (fun i j => .int (i ^ j.toNat)) fun _ _ _ _ => .int_ _
theorem opD_lt : OpD g (rI0 fun i j => .bl (decide (i < j))) dLtI := opD_I0 _ (fun i j => .bl (decide (i < j))) fun _ _ _ _ => .bl_ _
theorem opD_gt : OpD g (rI0 fun i j => .bl (decide (j < i))) dGt := opD_I0 _ (fun i j => .bl (decide (j < i))) fun _ _ _ _ => .bl_ _
theorem opD_ge : OpD g (rI0 fun i j => .bl (decide (j ≤ i))) dGe := opD_I0 _ (fun i j => .bl (decide (j ≤ i))) fun _ _ _ _ => .bl_ _
theorem opD_eq : OpD g (rEqD g.K) dEq := fun x y v w H A Q rx ry o => by
  unfold dEq at o
  by_cases h : SeqAt.shaped x.py = true ∧ SeqAt.shaped y.py = true
  · rw [if_pos h] at o
    exact ⟨_, _, dp_of h.1 rx, dp_of h.2 ry, h.1, h.2, OutV.bl o⟩
  · rw [if_neg h] at o; exact o.elim
theorem opD_ne : OpD g (rNeD g.K) dNe := fun x y v w H A Q rx ry o => by
  unfold dNe at o
  by_cases h : SeqAt.shaped x.py = true ∧ SeqAt.shaped y.py = true
  · rw [if_pos h] at o
    exact ⟨_, _, dp_of h.1 rx, dp_of h.2 ry, h.1, h.2, OutV.bl o⟩
  · rw [if_neg h] at o; exact o.elim
theorem opD_isN : OpD g (fun x y H Q => y = .non ∧ Q (.bl (decide (x = .non))) H) dIsN := fun x y v w H A Q rx ry o => by
  cases y <;> first | exact o.elim | skip
  refine ⟨ry.toNon, ?_⟩
  rw [rep_non_iff rx]
  exact OutV.bl o
def D.isFlat : D → Bool
  | .non | .bl _ | .int _ | .str _ => true
  | _ => false
def dMem (x : D) (l : List D) : Bool := l.any fun z => PyData.eqv z.py x.py
def hasSub (j i : Str) : Bool := !(Builtin.Str.occurrences j i 0 j.length 1).isEmpty
def dInB (x y : D) : Option Bool := match y with
  | .lst l => if SeqAt.shaped x.py = true ∧ SeqAt.shaped (D.lst l).py = true then some (dMem x l) else none
  | .tup l => if x.isFlat = true ∧ l.all D.isFlat = true then some (dMem x l) else none
  | .str j => match x with
    | .str i => some (hasSub j i)
    | _ => none
  | .dic ks _ => match x with
    | .int i => some (ks.any fun k => decide (k = Sum.inl i))
    | .str s => some (ks.any fun k => decide (k = Sum.inr s))
    | _ => none
  | _ => none
def dNotIn (x y : D) : Res D := match dInB x y with
  | some b => .ok (.bl (!b))
  | none => .stuck
theorem pyL_any (p : PyData → Bool) : ∀ l : List D, (D.pyL l).any p = l.any fun z => p z.py
  | [] => by rw [D.pyL]; rfl
  | d :: l => by rw [D.pyL, List.any_cons, List.any_cons, pyL_any p l]
theorem flat_rep {H : Hp} {A : Addr → Prop} {d : D} {v : V} (f : d.isFlat = true) (h : Rep g H A d v) : flatV v = true := by
  cases d <;> first | cases f | skip
  · rw [h.toNon]; rfl
  · rw [h.toBl]; rfl
  · rw [h.toInt]; rfl
  · rw [h.toStr]; rfl
theorem flat_repL {H : Hp} {A : Addr → Prop} : ∀ {l : List D} {vs : List V}, l.all D.isFlat = true → RepL g H A l vs → vs.all flatV = true
  | [], vs, _, h => by rw [h.toNil]; rfl
  | d :: l, vs, f, h => by
    obtain ⟨v, r, rfl, h1, h2⟩ := h.toCons
    rw [List.all_cons, Bool.and_eq_true] at f ⊢
    exact ⟨flat_rep f.1 h1, flat_repL f.2 h2⟩
theorem eqV_rep {H : Hp} {A : Addr → Prop} {d e : D} {v w : V} (f : d.isFlat = true) (f' : e.isFlat = true) (h : Rep g H A d v) (h' : Rep g H A e w) : eqV v w = PyData.eqv d.py e.py := by
  cases d <;> first | cases f | skip
  all_goals cases e <;> first | cases f' | skip
  all_goals first | rw [h.toNon] | rw [h.toBl] | rw [h.toInt] | rw [h.toStr]
  all_goals first | rw [h'.toNon] | rw [h'.toBl] | rw [h'.toInt] | rw [h'.toStr]
  all_goals simp only [D.py, PyData.eqv, eqV]
theorem inV_rep {H : Hp} {A : Addr → Prop} {x : D} {w : V} (f' : x.isFlat = true) (h' : Rep g H A x w) : ∀ {l : List D} {vs : List V}, l.all D.isFlat = true → RepL g H A l vs → inV w vs = dMem x l
  | [], vs, _, h => by rw [h.toNil]; rfl
  | d :: l, vs, f, h => by
    obtain ⟨v, r, rfl, h1, h2⟩ := h.toCons
    rw [List.all_cons, Bool.and_eq_true] at f
    unfold inV dMem
    rw [List.any_cons, List.any_cons, eqV_rep f.1 f' h1 h']
    have := inV_rep f' h' f.2 h2
    unfold inV dMem at this
    rw [this]
def rNotInA (K : PySem.W.Frag) : R2 := fun x y H Q => rNotInD K x y H Q ∨ rIn K true x y H Q ∨ ∃ i j, x = .str i ∧ y = .str j ∧ Q (.bl (!(!(Builtin.Str.occurrences j i 0 j.length 1).isEmpty))) H
theorem or_notInA (hu : X.A.units + 65 < cLine) : OpR X (compareOp .NotIn) (rNotInA X.K) := (op_notInD hu).or (op_notIn_seq.or op_notIn_str)
def dNotInS (x y : D) : Res D := match y with
  | .dic _ _ => .stuck
  | _ => dNotIn x y
theorem opD_notIn : OpD g (rNotInA g.K) dNotInS := fun x y v w H A Q rx ry o => by
  cases y <;> first | exact o.elim | skip
  · rename_i j
    cases x <;> first | exact o.elim | skip
    exact .inr (.inr ⟨_, _, rx.toStr, ry.toStr, OutV.bl o⟩)
  · rename_i l
    have o' : OutV g H A (dNotIn x (.tup l)) Q := o
    unfold dNotIn dInB at o'
    by_cases h : x.isFlat = true ∧ l.all D.isFlat = true
    · simp only [h, and_self, if_true] at o'
      obtain ⟨a, vs, rfl, h1, h2⟩ := ry.toTup
      refine .inr (.inl ⟨a, vs, rfl, .inr h1, flat_rep h.1 rx, flat_repL h.2 h2, ?_⟩)
      rw [inV_rep h.1 rx h.2 h2]
      exact OutV.bl o'
    · simp only [h, if_false] at o'; exact o'.elim
  · rename_i l
    have o' : OutV g H A (dNotIn x (.lst l)) Q := o
    unfold dNotIn dInB at o'
    by_cases h : SeqAt.shaped x.py = true ∧ SeqAt.shaped (D.lst l).py = true
    · simp only [h, and_self, if_true] at o'
      have d2 := dp_of h.2 ry
      have s2 := h.2
      rw [D.py] at d2 s2
      refine .inl ⟨_, _, dp_of h.1 rx, d2, h.1, s2, ?_⟩
      rw [pyL_any]
      exact OutV.bl o'
    · simp only [h, if_false] at o'; exact o'.elim
end
def dNeg : D → Res D
  | .int i => .ok (.int (-i))
  | _ => .stuck
theorem unD_neg {g : G} : UnD g (rU fun i => .int (-i)) dNeg := fun x v H A Q rx o => by
  cases x <;> first | exact o.elim | skip
  exact ⟨_, rx.toInt, OutV.int o⟩
def dIx : D → D → Res D := fun x y => match x, y with
  | .lst l, .int i => match atI l i with | some d => .ok d | none => .stuck
  | .tup l, .int i => match atI l i with | some d => .ok d | none => .stuck
  | .str z, .int i => match atI z.cps.toList i with | some c => if z.length ≤ 16777216 then .ok (.str ⟨#[c]⟩) else .stuck | none => .stuck
  | _, _ => .stuck
theorem atI_rep {g : G} {H : Hp} {A : Addr → Prop} {l : List D} {vs : List V} {i : Int} {d : D} (h : RepL g H A l vs) (e : atI l i = some d) : ∃ v, atI vs i = some v ∧ Rep g H A d v := by
  unfold atI at e ⊢
  rw [← h.length]
  cases hx : ixN l.length i with
  | none => rw [hx] at e; cases e
  | some j =>
    rw [hx] at e
    exact h.get e
theorem opD_ix {g : G} : OpD g (rIx g.K) dIx := fun x y v w H A Q rx ry o => by
  cases x <;> cases y <;> first | exact o.elim | skip
  · rename_i z i
    have o' : OutV g H A (match atI z.cps.toList i with | some c => if z.length ≤ 16777216 then .ok (.str ⟨#[c]⟩) else .stuck | none => .stuck) Q := o
    cases e : atI z.cps.toList i with
    | none => rw [e] at o'; exact o'.elim
    | some c =>
      rw [e] at o'
      by_cases hl : z.length ≤ 16777216
      · simp only [hl, if_true] at o'
        exact .inr (.inr ⟨z, i, c, rx.toStr, ry.toInt, hl, e, OutV.str o'⟩)
      · simp only [hl, if_false] at o'; exact o'.elim
  · rename_i l i
    have o' : OutV g H A (match atI l i with | some d => .ok d | none => .stuck) Q := o
    obtain ⟨a, vs, rfl, h1, h2⟩ := rx.toTup
    cases e : atI l i with
    | none => rw [e] at o'; exact o'.elim
    | some d =>
      rw [e] at o'
      obtain ⟨u, e1, e2⟩ := atI_rep h2 e
      exact .inr (.inl ⟨a, vs, i, u, rfl, ry.toInt, h1, e1, o'.now e2⟩)
  · rename_i l i
    have o' : OutV g H A (match atI l i with | some d => .ok d | none => .stuck) Q := o
    obtain ⟨a, vs, rfl, h0, h1, h2⟩ := rx.toLst
    cases e : atI l i with
    | none => rw [e] at o'; exact o'.elim
    | some d =>
      rw [e] at o'
      obtain ⟨u, e1, e2⟩ := atI_rep h2 e
      exact .inl ⟨a, vs, i, u, rfl, ry.toInt, SqL.of h1, e1, o'.now e2⟩
def dAbs : List D → Res D
  | [.int i] => .ok (.int (if i < 0 then -i else i))
  | _ => .stuck
theorem one_of {g : G} {H : Hp} {A : Addr → Prop} {d : D} {vs : List V} (h : RepL g H A [d] vs) : ∃ v, vs = [v] ∧ Rep g H A d v := by
  obtain ⟨v, r, rfl, h1, h2⟩ := h.toCons
  rw [h2.toNil]; exact ⟨v, rfl, h1⟩
theorem two_of {g : G} {H : Hp} {A : Addr → Prop} {d e : D} {vs : List V} (h : RepL g H A [d, e] vs) : ∃ v w, vs = [v, w] ∧ Rep g H A d v ∧ Rep g H A e w := by
  obtain ⟨v, r, rfl, h1, h2⟩ := h.toCons
  obtain ⟨w, rfl, h3⟩ := one_of h2
  exact ⟨v, w, rfl, h1, h3⟩
theorem callD_abs {g : G} : CallD g (fun xs H Q => ∃ i, xs = [.int i] ∧ Q (.int (if i < 0 then -i else i)) H) dAbs := fun xs vs H A Q r o => by
  cases xs with
  | nil => exact o.elim
  | cons d l =>
    cases l with
    | cons => cases d <;> exact o.elim
    | nil =>
      obtain ⟨v, rfl, h⟩ := one_of r
      cases d <;> first | exact o.elim | skip
      rw [h.toInt]; exact ⟨_, rfl, OutV.int o⟩
def dLen : List D → Res D
  | [.lst l] => .ok (.int l.length)
  | [.tup l] => .ok (.int l.length)
  | [.str z] => if z.length ≤ 16777216 then .ok (.int z.length) else .stuck
  | _ => .stuck
theorem callD_len {g : G} : CallD g (fun xs H Q => ∃ x n, xs = [x] ∧ LenV g.K x H n ∧ Q (.int n) H) dLen := fun xs vs H A Q r o => by
  cases xs with
  | nil => exact o.elim
  | cons d l =>
    cases l with
    | cons => cases d <;> exact o.elim
    | nil =>
      obtain ⟨v, rfl, h⟩ := one_of r
      cases d <;> first | exact o.elim | skip
      · rename_i z
        have o' : OutV g H A (if z.length ≤ 16777216 then .ok (.int z.length) else .stuck) Q := o
        by_cases hl : z.length ≤ 16777216
        · rw [if_pos hl] at o'
          rw [h.toStr]
          exact ⟨_, z.length, rfl, ⟨hl, rfl⟩, OutV.int o'⟩
        · rw [if_neg hl] at o'; exact o'.elim
      · rename_i l
        obtain ⟨a, ws, rfl, h1, h2⟩ := h.toTup
        exact ⟨_, l.length, rfl, .inr ⟨ws, h1, h2.length⟩, OutV.int o⟩
      · rename_i l
        obtain ⟨a, ws, rfl, h0, h1, h2⟩ := h.toLst
        exact ⟨_, l.length, rfl, .inl ⟨ws, SqL.of h1, h2.length⟩, OutV.int o⟩
def bools : List D → Option (List Bool)
  | [] => some []
  | .bl b :: l => (bools l).map (b :: ·)
  | _ => none
theorem bools_rep {g : G} {H : Hp} {A : Addr → Prop} : ∀ {l : List D} {bs : List Bool} {vs : List V}, bools l = some bs → RepL g H A l vs → vs = bs.map V.bl
  | [], bs, vs, e, h => by rw [bools] at e; cases e; exact h.toNil
  | d :: l, bs, vs, e, h => by
    cases d <;> first | (rw [bools] at e; cases e; done) | (simp [bools] at e; done) | skip
    rename_i b
    obtain ⟨v, r, rfl, h1, h2⟩ := h.toCons
    rw [bools] at e
    cases eb : bools l with
    | none => rw [eb] at e; cases e
    | some bs' =>
      rw [eb] at e; cases e
      rw [h1.toBl, bools_rep eb h2]; rfl
def dAll : List D → Res D
  | [.lst l] => match bools l with | some bs => .ok (.bl (bs.all id)) | none => .stuck
  | _ => .stuck
theorem callD_all {g : G} : CallD g (rAll g.K) dAll := fun xs vs H A Q r o => by
  cases xs with
  | nil => exact o.elim
  | cons d l =>
    cases l with
    | cons => cases d <;> exact o.elim
    | nil =>
      obtain ⟨v, rfl, h⟩ := one_of r
      cases d <;> first | exact o.elim | skip
      rename_i l
      obtain ⟨a, ws, rfl, h0, h1, h2⟩ := h.toLst
      have o' : OutV g H A (match bools l with | some bs => .ok (.bl (bs.all id)) | none => .stuck) Q := o
      cases e : bools l with
      | none => rw [e] at o'; exact o'.elim
      | some bs =>
        rw [e] at o'
        exact ⟨a, bs, rfl, by rw [← bools_rep e h2]; exact SqL.of h1, OutV.bl o'⟩
inductive Ty where | tInt | tBool | tStr | tTup | tList
  deriving DecidableEq
def Ty.nm : Ty → String
  | .tInt => "int" | .tBool => "bool" | .tStr => "str" | .tTup => "tuple" | .tList => "list"
def dIsi (t : Ty) : D → Bool
  | .non => false
  | .bl _ => t = .tInt || t = .tBool
  | .int _ => t = .tInt
  | .str _ => t = .tStr
  | .tup _ => t = .tTup
  | .lst _ => t = .tList
  | .dic _ _ => false
  | .ins _ _ _ => false
  | .key _ => false
  | .dcT _ _ => false
def dIsinst (t : Ty) : List D → Res D
  | [.ins _ _ _] => .stuck
  | [.dic _ _] => .stuck
  | [.key _] => .stuck
  | [.dcT _ _] => .stuck
  | [d] => .ok (.bl (dIsi t d))
  | _ => .stuck
end DL
set_option Elab.async false
set_option linter.all false
set_option maxRecDepth 100000
namespace DL
open PySem L2
def OutF (C : Ctx) (own : Own) (F : Hp) (σ : L2.St) (e : En) (H : Hp) (r : Res (List D × Rng)) (Q : VK) : Prop :=
  match r with
  | .ok (l, g') => ∀ H' p vs, ExtI C H H' → H p = none → H' p = some (.lst vs) → SR C own F H' σ e g' → RepL C.g H' (fun a => C.Al own a ∧ a ≠ p) l vs → Q (.ref p) H'
  | .err x => ∀ H' c dd, ExtI C H H' → (∃ g', SR C own F H' σ e g') → RepX C.g H' (C.Al own) x c dd → C.W c dd σ H'
  | .stuck => False
def tDF (C : Ctx) (f : MA) : TE := fun σ H Q => ∃ own F e g, SR C own F H σ e g ∧ OutF C own F σ e H (f e g) Q
def DF (C : Ctx) (x : Expr) (f : MA) : Prop := PE C.X x (tDF C f)
def eOfL (f : MA) : ME := fun e g => (f e g).bind fun p => .ok (.lst p.1, p.2)
section
variable {C : Ctx} {x a b : Expr} {fa fb : ME} {pos : Pos}
theorem de_ofF {f : MA} (h : DF C x f) : DE C x (eOfL f) := pe_imp h fun σ H Q ⟨own, F, e, g, S, o⟩ => ⟨own, F, e, g, S, by
  unfold eOfL at o
  cases hf : f e g with
  | ok a =>
    obtain ⟨l, g'⟩ := a
    rw [hf] at o
    exact fun H' p vs x n hp S' r => o H' _ x S' (.lst_ (S.fresh n) hp (r.mono (.same fun _ _ z => z) fun a q _ => q.1))
  | err y => rw [hf] at o; exact o
  | stuck => rw [hf] at o; exact o.elim⟩
def aLst (a : MA) : MA := fun e g => (a e g).bind fun p => if p.1.length ≤ 1000 then .ok p else .stuck
theorem OutF.bindA {own : Own} {F H : Hp} {σ : L2.St} {e : En} {r : Res (List D × Rng)} {k : List D × Rng → Res (List D × Rng)} {Q : VK} {Q1 : List V → Hp → Prop} (h : OutF C own F σ e H (r.bind k) Q)
    (hq : ∀ d g1 H1 v, ExtI C H H1 → SR C own F H1 σ e g1 → RepL C.g H1 (C.Al own) d v → OutF C own F σ e H1 (k (d, g1)) Q → Q1 v H1) : OutA C own F σ e H r Q1 := by
  cases r with
  | ok a =>
    obtain ⟨d, g1⟩ := a
    intro H1 v x S r1
    refine hq d g1 H1 v x S r1 ?_
    have h' : OutF C own F σ e H (k (d, g1)) Q := h
    have fb : ∀ {p}, H1 p = none → ¬ C.io p → H p = none := fun {p} n ni => by
      cases q : H p with
      | none => rfl
      | some o => rw [x p o q ni] at n; cases n
    cases hk : k (d, g1) with
    | ok a =>
      rw [hk] at h'
      exact fun H2 p vs x2 n hp S2 rr => h' H2 p vs (x.trans x2) (fb n (fun hi => by obtain ⟨xs, z, _⟩ := S.io p hi; rw [n] at z; cases z)) hp S2 rr
    | err y =>
      rw [hk] at h'
      exact fun H2 c dd x2 => h' H2 c dd (x.trans x2)
    | stuck => rw [hk] at h'; exact h'
  | err y => exact h
  | stuck => exact h
theorem OutF.bindE {own : Own} {F H : Hp} {σ : L2.St} {e : En} {r : Res (D × Rng)} {k : D × Rng → Res (List D × Rng)} {Q : VK} {Q1 : VK} (h : OutF C own F σ e H (r.bind k) Q)
    (hq : ∀ d g1 H1 v, ExtI C H H1 → SR C own F H1 σ e g1 → Rep C.g H1 (C.Al own) d v → OutF C own F σ e H1 (k (d, g1)) Q → Q1 v H1) : OutE C own F σ e H r Q1 := by
  cases r with
  | ok a =>
    obtain ⟨d, g1⟩ := a
    intro H1 v x S r1
    refine hq d g1 H1 v x S r1 ?_
    have h' : OutF C own F σ e H (k (d, g1)) Q := h
    have fb : ∀ {p}, H1 p = none → ¬ C.io p → H p = none := fun {p} n ni => by
      cases q : H p with
      | none => rfl
      | some o => rw [x p o q ni] at n; cases n
    cases hk : k (d, g1) with
    | ok a =>
      rw [hk] at h'
      exact fun H2 p vs x2 n hp S2 rr => h' H2 p vs (x.trans x2) (fb n (fun hi => by obtain ⟨xs, z, _⟩ := S.io p hi; rw [n] at z; cases z)) hp S2 rr
    | err y =>
      rw [hk] at h'
      exact fun H2 c dd x2 => h' H2 c dd (x.trans x2)
    | stuck => rw [hk] at h'; exact h'
  | err y => exact h
  | stuck => exact h
theorem OutF.newL {own : Own} {F H : Hp} {σ : L2.St} {e : En} {g : Rng} {l : List D} {vs : List V} {p : Addr} {Q : VK} (S : SR C own F H σ e g) (h : OutF C own F σ e H (.ok (l, g)) Q) (n : H p = none) (r : RepL C.g H (C.Al own) l vs) : Q (.ref p) (upd H p (.lst vs)) := by
  have s : Same H (upd H p (.lst vs)) := fun a o e => by rw [upd_ne (ne_of_none e n)]; exact e
  exact h _ p vs (.of s) n upd_same (S.same s) (r.mono (.same s) fun a q ⟨o, z⟩ => ⟨q, ne_of_none z n⟩)
theorem df_lst {es : List Expr} {fs : MA} (h : ∀ {t : TA}, PA C.X es t → PE C.X x (tLst t)) (ha : DA C es fs) : DF C x (aLst fs) :=
  pe_imp (h ha) fun σ H Q ⟨own, F, e, g, S, o⟩ => ⟨own, F, e, g, S, OutF.bindA o fun l g1 H1 vs x1 S1 r1 o1 => by
    by_cases hl : l.length ≤ 1000
    · simp only [hl, if_true] at o1
      exact ⟨by rw [← r1.length]; exact le_line hl, fun p hp => o1.newL S1 hp r1⟩
    · simp only [hl, if_false] at o1
      exact o1.elim⟩
def borrow (B : List Nat) (e : En) : En := e.mapIdx fun i s => match s with
  | .ow l => if i ∈ B then .sh (.lst l) else .ow l
  | s => s
def offB (B : List Nat) (own : Own) : Own := fun j => if j ∈ B then none else own j
theorem Al_off {own : Own} {B : List Nat} {a : Addr} (h : C.Al own a) : C.Al (offB B own) a := ⟨h.1, fun j hj => by
  unfold offB at hj
  split at hj
  · cases hj
  · exact h.2.1 j hj, h.2.2⟩
theorem SR.borrow {own : Own} {F H : Hp} {σ : L2.St} {e : En} {g : Rng} (B : List Nat) (S : SR C own F H σ e g) : SR C (offB B own) F H σ (borrow B e) g where
  len := by unfold DL.borrow; rw [List.length_mapIdx]; exact S.len
  sl := fun i s hs => by
    unfold DL.borrow at hs
    rw [List.getElem?_mapIdx] at hs
    cases q : e[i]? with
    | none => rw [q] at hs; cases hs
    | some s0 =>
      rw [q] at hs
      have z := S.sl i s0 q
      have up : ∀ {l : List D} {vs : List V}, RepL C.g H (C.Al own) l vs → RepL C.g H (C.Al (offB B own)) l vs := fun r => r.mono (.same fun _ _ z => z) fun a q _ => Al_off q
      cases s0 with
      | un => cases hs; trivial
      | ex y => cases hs; exact ExR.mono z (.same fun _ _ z => z) (fun _ _ q => q) fun a q _ => Al_off q
      | sh d =>
        cases hs
        obtain ⟨v, e1, e2⟩ := z
        exact ⟨v, e1, e2.mono (.same fun _ _ z => z) fun a q _ => Al_off q⟩
      | ow l =>
        obtain ⟨p, vs, e1, e2, e3, e4⟩ := z
        by_cases hb : i ∈ B
        · simp only [Option.map_some, hb, if_true] at hs
          cases hs
          refine ⟨.ref p, e2, .lst_ ⟨.inr (S.on i p e1).2.1, fun j hj => ?_, (S.on i p e1).2.2⟩ e3 (up e4)⟩
          unfold offB at hj
          split at hj
          · cases hj
          · rename_i hn
            rw [S.inj j i p hj e1] at hn
            exact hn hb
        · simp only [Option.map_some, hb, if_false] at hs
          cases hs
          exact ⟨p, vs, by unfold offB; rw [if_neg hb]; exact e1, e2, e3, up e4⟩
      | rng => cases hs; exact z
      | me => cases hs; exact z
      | pol => cases hs; exact z
  on := fun i p h => by
    unfold offB at h
    split at h
    · cases h
    · exact S.on i p h
  ph := fun i p h hi => by
    unfold DL.borrow at hi ⊢
    rw [List.length_mapIdx] at hi
    unfold offB at h
    split at h
    · cases h
    · rename_i hb
      obtain ⟨l, hl⟩ := S.ph i p h hi
      exact ⟨l, by rw [List.getElem?_mapIdx, hl]; simp [hb]⟩
  inj := fun i j p h h' => by
    unfold offB at h h'
    split at h
    · cases h
    · split at h'
      · cases h'
      · exact S.inj i j p h h'
  fin := by
    obtain ⟨n, hn⟩ := S.fin
    exact ⟨n, fun j hj => by unfold offB; split; rfl; exact hn j hj⟩
  h0 := S.h0
  fr := fun a o h => by
    obtain ⟨h1, h2, h3⟩ := S.fr a o h
    exact ⟨h1, fun j hj => by
      unfold offB at hj
      split at hj
      · cases hj
      · exact h2 j hj, h3⟩
  io := S.io
  tb := S.tb
  ih := S.ih
  rg := S.rg
  po := S.po
theorem SR.back {own own' : Own} {F F' H H' : Hp} {σ σ' : L2.St} {e e' : En} {g g' : Rng} (S : SR C own F H σ e g) (x : ExtI C H H') (S' : SR C own' F' H' σ' e' g') : SR C own F H' σ e g' :=
  S.ext x S'.io S'.tb (fun r c h => (S'.rg r c h).2.2.2) fun r a b h => (S'.po r a b h).2.2.2
end
def OutD (g : G) (H : Hp) (A : Addr → Prop) (E : XK) (r : Res D) (Q : VK) : Prop := match r with
  | .ok d => ∀ H' v, SameT g.tb H H' → Tabs g.tb H' → Rep g H' (fun a => A a ∨ H a = none) d v → Q v H'
  | .err x => ∀ H' c dd, SameT g.tb H H' → Tabs g.tb H' → RepX g H' (fun a => A a ∨ H a = none) x c dd → E c dd H'
  | .stuck => False
def spD (g : G) (m : List D → Res D) : Sp := fun vs H Q E => ∃ (A : Addr → Prop) (ds : List D), RepL g H A ds vs ∧ Tabs g.tb H ∧ (∀ a, A a → ∀ p ∈ g.tb, p.1 ≠ a) ∧ OutD g H A E (m ds) Q
def OutDG (g : G) (H : Hp) (A : Addr → Prop) (r c : Addr) (z : Res (D × Rng)) (Q : VK) : Prop := match z with
  | .ok (d, g') => ∀ H' v, (∀ a o, H a = some o → a ≠ r → (∀ p ∈ g.tb, p.1 ≠ a) → H' a = some o) → Tabs g.tb H' → RngAt H' r c g' → Rep g H' (fun a => A a ∨ H a = none) d v → Q v H'
  | .err _ => False
  | .stuck => False
def spG (g : G) (m : List D → Rng → Res (D × Rng)) : Sp := fun vs H Q E => ∃ (A : Addr → Prop) (ds : List D) (r c : Addr) (gg : Rng) (ws : List V), vs = .ref r :: ws ∧ RngAt H r c gg ∧ RepL g H A ds ws ∧ ¬ A r ∧ Tabs g.tb H ∧ (∀ a, A a → ∀ p ∈ g.tb, p.1 ≠ a) ∧ OutDG g H A r c (m ds gg) Q
section
variable {C : Ctx} {x a b : Expr} {fa fb : ME} {pos p : Pos} {k : Nat} {f : Addr} {fd : FuncData} {ps : List Str} {ds : List Value} {n : Str} {es : List Expr} {fs : MA}
theorem passN {X : Cx} : Passes (L2N.CX X.prog X.w) X E0 := fun _ _ _ _ _ _ _ c => by
  obtain ⟨_, _, _, _, _, _, _, _, _, _, _, _, z⟩ := c
  exact z.elim
theorem Al_tb {own : Own} : ∀ a, C.Al own a → ∀ p ∈ C.g.tb, p.1 ≠ a := fun a h p hp z => h.2.2 (.inr ⟨p, hp, z⟩)
theorem OutE.toD {own : Own} {F H : Hp} {σ : L2.St} {e : En} {g : Rng} {r : Res D} {Q : VK} (S : SR C own F H σ e g) (h : OutE C own F σ e H (pureG r g) Q) : OutD C.g H (C.Al own) (fun c dd H' => C.W c dd σ H') r Q := by
  have up : ∀ {a : Addr}, (C.Al own a ∨ H a = none) → C.Al own a := fun q => q.elim id S.fresh
  cases r with
  | ok d => exact fun H' v s t r => h H' v (S.call s t).1 (S.call s t).2 (r.mono (.same fun _ _ z => z) fun a q _ => up q)
  | err x => exact fun H' c dd s t ⟨Ca, d, vs, h1, h2, h3, h4, h5, h6⟩ => h H' c dd (S.call s t).1 ⟨g, (S.call s t).2⟩ ⟨Ca, d, vs, h1, h2, h3, h4, h5, h6.mono (.same fun _ _ z => z) fun a q _ => up q⟩
  | stuck => exact h
theorem de_callF {m : List D → Res D} {dvs : List V} {dd : List D} (FF : FnOk C.X.prog C.X.w C.X.K C.X.mg C.X.base (L2N.CX C.X.prog C.X.w) k f fd ps (spD C.g m)) (hr : Room k C.X.A) (tk : L2N.Takes C.X C.W) (hg : Gl C.X n) (hm : C.X.mg n = some (.ref f)) (hk : PySem.W.keepIn C.X.K (.ref f) = true) (hb : L2.Binds C.X.K fd ps ds) (hd : Vals dvs ds) (hdd : ∀ H A, RepL C.g H A dd dvs)
    (ha : DA C (a :: es) fs) (hdb : (n == ("__debug__" : Str)) = false := by decide) (he : starEach (a :: es) C.X.env = (false, eval a C.X.env) :: starEach es C.X.env := by rfl) (hpl : (backTo pos (starEach es C.X.env)).any (·.1) = false := by rfl) :
    DE C (.Call (.Name n p) (a :: es) [] pos) (eCall (fun l => m (l ++ dd)) fs) :=
  pe_imp (pe_callSD (E := WE C.W) FF hr hg hm hk hb hd (fun σ => L2N.passAt tk σ) ha hdb he hpl) fun σ H Q ⟨own, F, e, g, S, o⟩ => ⟨own, F, e, g, S, OutE.bindA o fun l g1 H1 vs x1 S1 r1 o1 => ⟨C.Al own, l ++ dd, r1.append (hdd _ _), S1.tb, Al_tb, o1.toD S1⟩⟩
def eCallG (i : Nat) (m : List D → Rng → Res (D × Rng)) (fs : MA) : ME := fun e g => match e[i]? with
  | some .rng => (fs e g).bind fun p => match m p.1 p.2 with
    | .ok q => .ok q
    | _ => .stuck
  | _ => .stuck
theorem de_callG {m : List D → Rng → Res (D × Rng)} {i : Nat} {y : Expr} (FF : FnOk C.X.prog C.X.w C.X.K C.X.mg C.X.base (L2N.CX C.X.prog C.X.w) k f fd ps (spG C.g m)) (hr : Room k C.X.A) (hg : Gl C.X n) (hm : C.X.mg n = some (.ref f)) (hk : PySem.W.keepIn C.X.K (.ref f) = true) (hb : L2.Binds C.X.K fd ps [])
    (hv : PE C.X y (tVar i)) (ha : DA C es fs) (hdb : (n == ("__debug__" : Str)) = false := by decide) (he : starEach (y :: es) C.X.env = (false, eval y C.X.env) :: starEach es C.X.env := by rfl) (hpl : (backTo pos (starEach es C.X.env)).any (·.1) = false := by rfl) :
    DE C (.Call (.Name n p) (y :: es) [] pos) (eCallG i m fs) :=
  pe_imp (pe_call (E := E0) FF hr hg hm hk hb .nil passN (pa_cons hv ha he) hdb he hpl) fun σ H Q ⟨own, F, e, g, S, o⟩ => by
    unfold eCallG at o
    cases hs : e[i]? with
    | none => rw [hs] at o; exact o.elim
    | some s =>
      rw [hs] at o
      cases s with
      | un => exact o.elim
      | ex y => exact o.elim
      | sh d => exact o.elim
      | ow l => exact o.elim
      | me => exact o.elim
      | pol => exact o.elim
      | rng =>
        obtain ⟨r, c, h1, h2⟩ := S.sl i _ hs
        refine ⟨.ref r, h2, own, F, e, g, S, OutE.bindA o fun l g1 H1 vs x1 S1 r1 o1 => ?_⟩
        obtain ⟨hi, hc, hc0, R⟩ := S1.rg r c h1
        refine ⟨C.Al own, l, r, c, g1, vs, by simp, R, r1, fun z => z.2.2 hi, S1.tb, Al_tb, ?_⟩
        cases hm : m l g1 with
        | ok q =>
          obtain ⟨d, g2⟩ := q
          simp only [hm] at o1
          intro H' v hx ht hR hv
          have x2 : ExtI C H1 H' := fun a o z n => hx a o z (fun e => n (e ▸ hi)) fun p hp z => n (.inr ⟨p, hp, z⟩)
          have S2 : SR C own F H' σ e g2 := S1.ext x2 (fun a z => by
            rcases z with (⟨c', z⟩ | ⟨r', b', z | z⟩) | ⟨p, hp, rfl⟩
            · rw [h1] at z; cases z
              exact ⟨_, hR.at_, .inl ⟨_, rfl⟩⟩
            · exact S1.noPo h1 z
            · exact S1.noPo h1 z
            · exact ht.at_ hp) ht (fun r' c' z => by
              rw [h1] at z; cases z
              exact hR) fun r' a b z => S1.noPo h1 z
          exact o1 H' v x2 S2 (hv.mono (.same fun _ _ z => z) fun a q _ => q.elim id S1.fresh)
        | err y => simp only [hm] at o1; exact o1.elim
        | stuck => simp only [hm] at o1; exact o1.elim
end
end DL
set_option Elab.async false
set_option linter.all false
set_option maxRecDepth 100000
namespace DL
open PySem L2
def Ctx.AR (C : Ctx) (a : Addr) : Prop := (C.A a ∨ C.H0 a = none) ∧ ¬ C.io a
def OutS (C : Ctx) (F : Hp) (r : Res Out) (D : Ends) : Prop := match r with
  | .ok (.nx e' g') => ∀ own' σ' H', SR C own' F H' σ' e' g' → D.nx σ' H'
  | .ok (.bk e' g') => ∀ own' σ' H', SR C own' F H' σ' e' g' → D.bk σ' H'
  | .ok (.ct e' g') => ∀ own' σ' H', SR C own' F H' σ' e' g' → D.ct σ' H'
  | .ok (.rt d g') => ∀ own' σ' e' H' v, SR C own' F H' σ' e' g' → Rep C.g H' C.AR d v → D.rt v H'
  | .err x => ∀ own' σ' e' g' H' c dd, SR C own' F H' σ' e' g' → RepX C.g H' (C.Al own') x c dd → C.W c dd σ' H'
  | .stuck => False
def tDS (C : Ctx) (f : MS) : TS := fun D σ H => ∃ own F e g, SR C own F H σ e g ∧ OutS C F (f e g) D
def DS (C : Ctx) (x : Stmt) (f : MS) : Prop := PS C.X x (tDS C f)
def DSs (C : Ctx) (x : List Stmt) (f : MS) : Prop := PSs C.X x (tDS C f)
def sNx : MS := fun e g => .ok (.nx e g)
def sSeq (a b : MS) : MS := fun e g => (a e g).bind fun o => match o with
  | .nx e' g' => b e' g'
  | o => .ok o
def sAsg (i : Nat) (f : ME) : MS := fun e g => (f e g).bind fun p => .ok (.nx (e.set i (.sh p.1)) p.2)
def sAsgF (i : Nat) (f : MA) : MS := fun e g => (f e g).bind fun p => .ok (.nx (e.set i (.ow p.1)) p.2)
def sRet (B : List Nat) (f : ME) : MS := fun e g => (f (borrow B e) g).bind fun p => .ok (.rt p.1 p.2)
def sDrop (f : ME) : MS := fun e g => (f e g).bind fun p => .ok (.nx e p.2)
def sIf (c : MT) (a b : MS) : MS := fun e g => (c e g).bind fun p => if p.1 = true then a e p.2 else b e p.2
section
variable {C : Ctx} {x a b : Expr} {st : Stmt} {rest sts : List Stmt} {fa fb : ME} {f1 f2 : MS} {pos : Pos}
theorem offB_nil (own : Own) : offB [] own = own := by funext j; simp [offB]
theorem borrow_nil (e : En) : borrow [] e = e := by
  unfold borrow
  apply List.ext_getElem
  · simp
  · intro i h1 h2
    rw [List.getElem_mapIdx]
    cases e[i] <;> simp
theorem SR.tr {own : Own} {F H : Hp} {σ : L2.St} {e : En} {g : Rng} (S : SR C own F H σ e g) : True := trivial
theorem SR.set {own : Own} {F H : Hp} {σ : L2.St} {e : En} {g : Rng} {i : Nat} {d : D} {v : V} (S : SR C own F H σ e g) (r : Rep C.g H (C.Al own) d v) : SR C (offB [i] own) F H (σ.set i (some v)) (e.set i (.sh d)) g where
  len := by simp [S.len]
  sl := fun j s hs => by
    by_cases hj : i = j
    · subst hj
      have hi : i < e.length := by
        have := (List.getElem?_eq_some_iff.mp hs).1
        simpa using this
      rw [List.getElem?_set_self hi] at hs
      cases hs
      exact ⟨v, by rw [List.getElem?_set_self (by rw [S.len]; exact hi)], r.mono (.same fun _ _ z => z) fun a q _ => Al_off q⟩
    · rw [List.getElem?_set_ne hj] at hs
      have z := S.sl j s hs
      have e2 : (σ.set i (some v))[j]? = σ[j]? := List.getElem?_set_ne hj
      cases s with
      | un => trivial
      | ex y => exact ExR.mono (e2 ▸ z) (.same fun _ _ z => z) (fun _ _ q => q) fun a q _ => Al_off q
      | sh d =>
        obtain ⟨w, e1, e3⟩ := z
        exact ⟨w, by rw [e2]; exact e1, e3.mono (.same fun _ _ z => z) fun a q _ => Al_off q⟩
      | ow l =>
        obtain ⟨p, vs, e1, e3, e4, e5⟩ := z
        exact ⟨p, vs, by unfold offB; rw [if_neg (by simp; exact fun h => hj h.symm)]; exact e1, by rw [e2]; exact e3, e4, e5.mono (.same fun _ _ z => z) fun a q _ => Al_off q⟩
      | rng =>
        obtain ⟨r, c, e1, e3⟩ := z
        exact ⟨r, c, e1, by rw [e2]; exact e3⟩
      | me =>
        obtain ⟨a, e1, e3⟩ := z
        exact ⟨a, e1, by rw [e2]; exact e3⟩
      | pol =>
        obtain ⟨r, a, b, e1, e3⟩ := z
        exact ⟨r, a, b, e1, by rw [e2]; exact e3⟩
  on := (S.borrow [i]).on
  ph := fun j p h hj => by
    unfold offB at h
    split at h
    · cases h
    · rename_i hn
      have hij : i ≠ j := fun z => hn (by simp [z])
      rw [List.getElem?_set_ne hij]
      exact S.ph j p h (by simpa using hj)
  inj := (S.borrow [i]).inj
  fin := (S.borrow [i]).fin
  h0 := S.h0
  fr := (S.borrow [i]).fr
  io := S.io
  tb := S.tb
  ih := S.ih
  rg := S.rg
  po := S.po
theorem SR.setF {own : Own} {F H H' : Hp} {σ : L2.St} {e : En} {g g0 : Rng} {i : Nat} {l : List D} {p : Addr} {vs : List V} (S0 : SR C own F H σ e g0) (x : ExtI C H H') (S : SR C own F H' σ e g) (n : H p = none) (hp : H' p = some (.lst vs)) (r : RepL C.g H' (fun a => C.Al own a ∧ a ≠ p) l vs) :
    SR C (fun j => if j = i then some p else own j) F H' (σ.set i (some (.ref p))) (e.set i (.ow l)) g := by
  have fp : C.Al own p := S0.fresh n
  have up : ∀ {a : Addr}, (C.Al own a ∧ a ≠ p) → C.Al (fun j => if j = i then some p else own j) a := fun {a} q => ⟨q.1.1, fun j hj => by
    by_cases h : j = i
    · simp only [h, if_true] at hj
      exact q.2 (Option.some.inj hj).symm
    · simp only [h, if_false] at hj
      exact q.1.2.1 j hj, q.1.2.2⟩
  refine ⟨by simp [S.len], fun j s hs => ?_, fun j q h => ?_, fun j q h hl => ?_, fun j k q h h' => ?_, ?_, S.h0, fun a o h => ?_, S.io, S.tb, S.ih, S.rg, S.po⟩
  · by_cases hj : i = j
    · subst hj
      have hi : i < e.length := by
        have := (List.getElem?_eq_some_iff.mp hs).1
        simpa using this
      rw [List.getElem?_set_self hi] at hs
      cases hs
      exact ⟨p, vs, by simp, by rw [List.getElem?_set_self (by rw [S.len]; exact hi)], hp, r.mono (.same fun _ _ z => z) fun a q _ => up q⟩
    · rw [List.getElem?_set_ne hj] at hs
      have z := S0.sl j s hs
      have e2 : (σ.set i (some (V.ref p)))[j]? = σ[j]? := List.getElem?_set_ne hj
      cases s with
      | un => trivial
      | ex y => exact ExR.mono (e2 ▸ z) (S0.keep x) (S0.xdExt x) fun a q ⟨o, z⟩ => up ⟨q, ne_of_none z n⟩
      | sh d =>
        obtain ⟨w, e1, e3⟩ := z
        exact ⟨w, by rw [e2]; exact e1, e3.mono (S0.keep x) fun a q ⟨o, z⟩ => up ⟨q, ne_of_none z n⟩⟩
      | ow l' =>
        obtain ⟨q, ws, e1, e3, e4, e5⟩ := z
        exact ⟨q, ws, by simp only [show j ≠ i from fun h => hj h.symm, if_false]; exact e1, by rw [e2]; exact e3, x _ _ e4 (S0.on j q e1).2.2, e5.mono (S0.keep x) fun a q ⟨o, z⟩ => up ⟨q, ne_of_none z n⟩⟩
      | rng =>
        obtain ⟨r, c, e1, e3⟩ := z
        exact ⟨r, c, e1, by rw [e2]; exact e3⟩
      | me =>
        obtain ⟨a, e1, e3⟩ := z
        exact ⟨a, e1, by rw [e2]; exact e3⟩
      | pol =>
        obtain ⟨r, a, b, e1, e3⟩ := z
        exact ⟨r, a, b, e1, by rw [e2]; exact e3⟩
  · by_cases hj : j = i
    · simp only [hj, if_true] at h
      cases h
      refine ⟨⟨vs, hp⟩, ?_, fp.2.2⟩
      cases hz : C.H0 p with
      | none => rfl
      | some o =>
        have := S0.h0 p o hz fp.2.2
        rw [n] at this; cases this
    · simp only [hj, if_false] at h
      exact S.on j q h
  · by_cases hj : j = i
    · subst hj
      exact ⟨l, by rw [List.getElem?_set_self (by simpa using hl)]⟩
    · simp only [hj, if_false] at h
      rw [List.getElem?_set_ne (Ne.symm hj)]
      exact S.ph j q h (by simpa using hl)
  · by_cases hj : j = i
    · by_cases hk : k = i
      · rw [hj, hk]
      · simp only [hj, if_true] at h
        simp only [hk, if_false] at h'
        cases h
        exact (fp.2.1 k h').elim
    · by_cases hk : k = i
      · simp only [hj, if_false] at h
        simp only [hk, if_true] at h'
        cases h'
        exact (fp.2.1 j h).elim
      · simp only [hj, if_false] at h
        simp only [hk, if_false] at h'
        exact S.inj j k q h h'
  · obtain ⟨m, hm⟩ := S.fin
    exact ⟨max m (i + 1), fun j hj => by
      have : j ≠ i := by omega
      simp only [this, if_false]
      exact hm j (by omega)⟩
  · obtain ⟨h1, h2, h3⟩ := S.fr a o h
    refine ⟨h1, fun j hj => ?_, h3⟩
    by_cases hji : j = i
    · simp only [hji, if_true] at hj
      have := (S0.fr a o h).1
      rw [← Option.some.inj hj, n] at this; cases this
    · simp only [hji, if_false] at hj
      exact h2 j hj
theorem SR.updRep {own : Own} {F H : Hp} {σ : L2.St} {e : En} {g : Rng} {i : Nat} {p : Addr} {vs : List V} (S : SR C own F H σ e g) (hi : own i = some p) {l : List D} {vs' : List V} (q : RepL C.g H (C.Al own) l vs') : RepL C.g (L2.upd H p (.lst vs)) (C.Al own) l vs' := by
  refine q.mono ⟨fun a xs h => ?_, fun a o h1 h2 => ?_, fun a xs h => ?_⟩ fun a q _ => q
  · have n : a ≠ p := fun z => by
      obtain ⟨⟨ys, hy⟩, _⟩ := S.on i p hi
      rcases h with h | ⟨o, h⟩ <;> (rw [z, hy] at h; cases h)
    rcases h with h | ⟨o, h⟩
    · exact .inl (by rw [upd_ne n]; exact h)
    · exact .inr ⟨o, by rw [upd_ne n]; exact h⟩
  · have n : a ≠ p := fun z => h1.2.1 i (z ▸ hi)
    rw [upd_ne n]; exact h2
  · have n : a ≠ p := fun z => by
      obtain ⟨⟨ys, hy⟩, _⟩ := S.on i p hi
      rw [z, hy] at h; cases h
    rw [upd_ne n]; exact h
theorem SR.upd {own : Own} {F H : Hp} {σ : L2.St} {e : En} {g : Rng} {i : Nat} {l : List D} {p : Addr} {vs : List V} (S : SR C own F H σ e g) (hi : own i = some p) (hs : i < e.length → σ[i]? = some (some (.ref p))) (r : RepL C.g H (C.Al own) l vs) :
    SR C own F (L2.upd H p (.lst vs)) σ (e.set i (.ow l)) g := by
  have k : ∀ {l : List D} {vs' : List V}, RepL C.g H (C.Al own) l vs' → RepL C.g (L2.upd H p (.lst vs)) (C.Al own) l vs' := fun q => S.updRep hi q
  have k1 : ∀ {l : D} {vs' : V}, Rep C.g H (C.Al own) l vs' → Rep C.g (L2.upd H p (.lst vs)) (C.Al own) l vs' := fun q => by
    have := k (RepL.cons q .nil)
    obtain ⟨v, r, e, h, _⟩ := this.toCons
    cases e; exact h
  refine ⟨by simp [S.len], fun j s hs' => ?_, fun j q h => ?_, fun j q h hl => ?_, S.inj, S.fin, fun a o h n => ?_, fun a o h => ?_, fun a h => ?_, ?_, S.ih, fun r c h => ?_, fun r a b h => ?_⟩
  · by_cases hj : i = j
    · subst hj
      have hi' : i < e.length := by
        have := (List.getElem?_eq_some_iff.mp hs').1
        simpa using this
      rw [List.getElem?_set_self hi'] at hs'
      cases hs'
      exact ⟨p, vs, hi, hs hi', upd_same, k r⟩
    · rw [List.getElem?_set_ne hj] at hs'
      have z := S.sl j s hs'
      cases s with
      | un => trivial
      | ex y =>
        obtain ⟨a, oe, Ca, dd, us, q1, q2, q3, q4, q5, q6, q7, q8⟩ := z
        exact ⟨a, oe, Ca, dd, us, q1, q2, q3, q4, q5, by rw [upd_ne (show dd ≠ p from fun z => (S.noXd q6).2 i (by rw [hi, z]))]; exact q6, q7, k q8⟩
      | sh d =>
        obtain ⟨w, e1, e3⟩ := z
        exact ⟨w, e1, k1 e3⟩
      | ow l' =>
        obtain ⟨q, ws, e1, e3, e4, e5⟩ := z
        have n : q ≠ p := fun z => hj (S.inj i j p hi (z ▸ e1))
        exact ⟨q, ws, e1, e3, by rw [upd_ne n]; exact e4, k e5⟩
      | rng => exact z
      | me => exact z
      | pol => exact z
  · obtain ⟨⟨xs, h1⟩, h2, h3⟩ := S.on j q h
    by_cases hq : q = p
    · subst hq
      exact ⟨⟨vs, upd_same⟩, h2, h3⟩
    · exact ⟨⟨xs, by rw [upd_ne hq]; exact h1⟩, h2, h3⟩
  · by_cases hj : i = j
    · subst hj
      exact ⟨l, by rw [List.getElem?_set_self (by simpa using hl)]⟩
    · rw [List.getElem?_set_ne hj]
      exact S.ph j q h (by simpa using hl)
  · have np : a ≠ p := fun z => by
      have := (S.on i p hi).2.1
      rw [z, this] at h; cases h
    rw [upd_ne np]
    exact S.h0 a o h n
  · obtain ⟨h1, h2, h3⟩ := S.fr a o h
    have np : a ≠ p := fun z => h2 i (z ▸ hi)
    exact ⟨by rw [upd_ne np]; exact h1, h2, h3⟩
  · obtain ⟨xs, h1, h2⟩ := S.io a h
    have np : a ≠ p := fun z => (S.on i p hi).2.2 (z ▸ h)
    exact ⟨xs, by rw [upd_ne np]; exact h1, h2⟩
  · obtain ⟨⟨ys, hy⟩, _⟩ := S.on i p hi
    exact S.tb.upd hy
  · obtain ⟨h1, h2, h3, R⟩ := S.rg r c h
    have np : r ≠ p := fun z => (S.on i p hi).2.2 (z ▸ h1)
    have nc : c ≠ p := fun z => h3 (by rw [z]; exact (S.on i p hi).2.1)
    exact ⟨h1, h2, h3, R.ne, by rw [upd_ne np]; exact R.at_, by rw [upd_ne nc]; exact R.ce, R.i0, R.b0, R.s0, R.s1, R.cl⟩
  · obtain ⟨h0, h1, h2, R⟩ := S.po r a b h
    obtain ⟨⟨ys, hy⟩, _⟩ := S.on i p hi
    exact ⟨h0, h1, h2, R.upd hy⟩
theorem OutS.bindE {own : Own} {F H : Hp} {σ : L2.St} {e : En} {r : Res (D × Rng)} {k : D × Rng → Res Out} {D' : Ends} {Q1 : VK} (h : OutS C F (r.bind k) D')
    (hq : ∀ d g1 H1 v, ExtI C H H1 → SR C own F H1 σ e g1 → Rep C.g H1 (C.Al own) d v → OutS C F (k (d, g1)) D' → Q1 v H1) : OutE C own F σ e H r Q1 := by
  cases r with
  | ok a =>
    obtain ⟨d, g1⟩ := a
    exact fun H1 v x S r1 => hq d g1 H1 v x S r1 h
  | err y => exact fun H' c dd x ⟨g', S⟩ r => h _ _ _ _ _ _ _ S r
  | stuck => exact h
theorem OutS.bindT {own : Own} {F H : Hp} {σ : L2.St} {e : En} {r : Res (Bool × Rng)} {k : Bool × Rng → Res Out} {D' : Ends} {Q1 : Bool → Hp → Prop} (h : OutS C F (r.bind k) D')
    (hq : ∀ d g1 H1, ExtI C H H1 → SR C own F H1 σ e g1 → OutS C F (k (d, g1)) D' → Q1 d H1) : OutT C own F σ e H r Q1 := by
  cases r with
  | ok a =>
    obtain ⟨d, g1⟩ := a
    exact fun H1 x S => hq d g1 H1 x S h
  | err y => exact fun H' c dd x ⟨g', S⟩ r => h _ _ _ _ _ _ _ S r
  | stuck => exact h
theorem OutS.bindF {own : Own} {F H : Hp} {σ : L2.St} {e : En} {r : Res (List D × Rng)} {k : List D × Rng → Res Out} {D' : Ends} {Q1 : VK} (h : OutS C F (r.bind k) D')
    (hq : ∀ l g1 H' p vs, ExtI C H H' → H p = none → H' p = some (.lst vs) → SR C own F H' σ e g1 → RepL C.g H' (fun a => C.Al own a ∧ a ≠ p) l vs → OutS C F (k (l, g1)) D' → Q1 (.ref p) H') : OutF C own F σ e H r Q1 := by
  cases r with
  | ok a =>
    obtain ⟨d, g1⟩ := a
    exact fun H1 p vs x n hp S r1 => hq d g1 H1 p vs x n hp S r1 h
  | err y => exact fun H' c dd x ⟨g', S⟩ r => h _ _ _ _ _ _ _ S r
  | stuck => exact h
theorem dss_nil : DSs C [] sNx := pss_imp pss_nil fun D σ H ⟨own, F, e, g, S, o⟩ => o _ _ _ S
theorem dss_cons (h1 : DS C st f1) (h2 : DSs C rest f2) : DSs C (st :: rest) (sSeq f1 f2) := pss_imp (pss_cons h1 h2) fun D σ H ⟨own, F, e, g, S, o⟩ => ⟨own, F, e, g, S, by
  unfold sSeq at o
  cases hf : f1 e g with
  | ok u =>
    rw [hf] at o
    cases u with
    | nx e' g' => exact fun own' σ' H' S' => ⟨own', F, e', g', S', o⟩
    | rt d g' => exact o
    | bk e' g' => exact o
    | ct e' g' => exact o
  | err y => rw [hf] at o; exact o
  | stuck => rw [hf] at o; exact o.elim⟩
theorem dss_one (h1 : DS C st f1) : DSs C [st] f1 := pss_one h1
theorem ds_set {i : Nat} (h : ∀ {t : TE}, PE C.X x t → PS C.X st (tAsg t (gName i))) (ha : DE C x fa) : DS C st (sAsg i fa) := ps_imp (h ha) fun D σ H ⟨own, F, e, g, S, o⟩ => ⟨own, F, e, g, S, OutS.bindE o fun d g1 H1 v x1 S1 r1 o1 => o1 _ _ _ (S1.set r1)⟩
theorem ds_setF {i : Nat} {f : MA} (h : ∀ {t : TE}, PE C.X x t → PS C.X st (tAsg t (gName i))) (ha : DF C x f) : DS C st (sAsgF i f) := ps_imp (h ha) fun D σ H ⟨own, F, e, g, S, o⟩ => ⟨own, F, e, g, S, OutS.bindF o fun l g1 H1 p vs x1 n hp S1 r1 o1 => o1 _ _ _ (S.setF x1 S1 n hp r1)⟩
theorem ds_ret (B : List Nat) (ha : DE C x fa) : DS C (.Return (some x) pos) (sRet B fa) := ps_imp (ps_ret ha) fun D σ H ⟨own, F, e, g, S, o⟩ => ⟨_, F, _, g, S.borrow B, OutS.bindE o fun d g1 H1 v x1 S1 r1 o1 => o1 _ _ _ _ _ S1 (r1.mono (.same fun _ _ z => z) fun a q _ => ⟨q.1, q.2.2⟩)⟩
theorem ds_expr (ha : DE C x fa) (hs : swapsWith x none pos.line C.X.env = pure false := by rfl) : DS C (.Expr x pos) (sDrop fa) := ps_imp (ps_expr ha hs) fun D σ H ⟨own, F, e, g, S, o⟩ => ⟨own, F, e, g, S, OutS.bindE o fun d g1 H1 v x1 S1 r1 o1 => o1 _ _ _ S1⟩
theorem ds_if {c : Expr} {tc : MT} {sa sb : List Stmt} (hc : DT C c tc) (ha : DSs C sa f1) (hb : DSs C sb f2) : DS C (.If c sa sb pos) (sIf tc f1 f2) := ps_imp (ps_if hc ha hb) fun D σ H ⟨own, F, e, g, S, o⟩ => ⟨own, F, e, g, S, OutS.bindT o fun d g1 H1 x1 S1 o1 => by
  cases d with
  | true => exact ⟨own, F, e, g1, S1, o1⟩
  | false => exact ⟨own, F, e, g1, S1, o1⟩⟩
def sFrz (B : List Nat) (f : MS) : MS := fun e g => f (borrow B e) g
def sPar (i j : Nat) (f : MA) : MS := fun e g => (f e g).bind fun p => match p.1 with
  | [d, d'] => .ok (.nx ((e.set i (.sh d)).set j (.sh d')) p.2)
  | _ => .stuck
theorem OutS.bindA {own : Own} {F H : Hp} {σ : L2.St} {e : En} {r : Res (List D × Rng)} {k : List D × Rng → Res Out} {D' : Ends} {Q1 : List V → Hp → Prop} (h : OutS C F (r.bind k) D')
    (hq : ∀ d g1 H1 v, ExtI C H H1 → SR C own F H1 σ e g1 → RepL C.g H1 (C.Al own) d v → OutS C F (k (d, g1)) D' → Q1 v H1) : OutA C own F σ e H r Q1 := by
  cases r with
  | ok a =>
    obtain ⟨d, g1⟩ := a
    exact fun H1 v x S r1 => hq d g1 H1 v x S r1 h
  | err y => exact fun H' c dd x ⟨g', S⟩ r => h _ _ _ _ _ _ _ S r
  | stuck => exact h
theorem ds_par {i j : Nat} {es : List Expr} {f : MA} (h : ∀ {t : TA}, PA C.X es t → PS C.X st (tPar i j t)) (ha : DA C es f) : DS C st (sPar i j f) := ps_imp (h ha) fun D σ H ⟨own, F, e, g, S, o⟩ => ⟨own, F, e, g, S, OutS.bindA o fun l g1 H1 vs x1 S1 r1 o1 => by
  match l, r1, o1 with
  | [d, d'], r1, o1 =>
    obtain ⟨v, w, rfl, rv, rw_⟩ := two_of r1
    refine ⟨v, w, rfl, o1 _ _ _ ((S1.set rv).set (rw_.mono (.same fun _ _ z => z) fun a q _ => Al_off q))⟩⟩
theorem lt_line {n : Nat} (h : n < 1000) : n < sizeLine := Nat.lt_trans h (by decide)
def sApp (i : Nat) (f : ME) : MS := fun e g => match e[i]? with
  | some (.ow l) => (f e g).bind fun p => if l.length < 1000 then .ok (.nx (e.set i (.ow (l ++ [p.1]))) p.2) else .stuck
  | _ => .stuck
theorem ds_app {i : Nat} (h : ∀ {t : TE}, PE C.X x t → PS C.X st (tDrop (tBM C.X.K "list" rAppend (tVar i) (tCons t tNil)))) (ha : DE C x fa) : DS C st (sApp i fa) :=
  ps_imp (h ha) fun D σ H ⟨own, F, e, g, S, o⟩ => by
    unfold sApp at o
    cases hs : e[i]? with
    | none => rw [hs] at o; exact o.elim
    | some s =>
      rw [hs] at o
      cases s <;> first | exact o.elim | skip
      rename_i l
      obtain ⟨p, vs, h1, h2, h3, h4⟩ := S.sl i _ hs
      refine ⟨.ref p, h2, .inl ⟨rfl, vs, SqL.of h3⟩, own, F, e, g, S, OutS.bindE o fun d g1 H1 v x1 S1 r1 o1 => ?_⟩
      have h3' := x1 _ _ h3 (S.on i p h1).2.2
      by_cases hl : l.length < 1000
      · simp only [hl, if_true] at o1
        exact ⟨p, vs, v, rfl, rfl, h3', by rw [← h4.length]; exact lt_line hl, o1 _ _ _ (S1.upd h1 (fun _ => h2) ((S.repL x1 h4).append (.cons r1 .nil)))⟩
      · simp only [hl, if_false] at o1; exact o1.elim
def sSetI (i : Nat) (f fk : ME) : MS := fun e g => match e[i]? with
  | some (.ow l) => (f e g).bind fun p => (fk e p.2).bind fun q => match q.1 with
    | .int k => match ixN l.length k with
      | some j => .ok (.nx (e.set i (.ow (l.set j p.1))) q.2)
      | none => .stuck
    | _ => .stuck
  | _ => .stuck
theorem ds_setI {i : Nat} (h : ∀ {t tk : TE}, PE C.X x t → PE C.X b tk → PS C.X st (tAsg t (gSub (tVar i) tk rSetL))) (ha : DE C x fa) (hb : DE C b fb) : DS C st (sSetI i fa fb) :=
  ps_imp (h ha hb) fun D σ H ⟨own, F, e, g, S, o⟩ => by
    unfold sSetI at o
    cases hs : e[i]? with
    | none => rw [hs] at o; exact o.elim
    | some s =>
      rw [hs] at o
      cases s <;> first | exact o.elim | skip
      rename_i l
      obtain ⟨p, vs, h1, h2, h3, h4⟩ := S.sl i _ hs
      refine ⟨own, F, e, g, S, OutS.bindE o fun d g1 H1 v x1 S1 r1 o1 => ⟨.ref p, h2, own, F, e, g1, S1, OutS.bindE o1 fun dk g2 H2 w x2 S2 r2 o2 => ?_⟩⟩
      have h3' := (x1.trans x2) _ _ h3 (S.on i p h1).2.2
      have h4' := S.repL (x1.trans x2) h4
      cases dk <;> first | exact o2.elim | skip
      rename_i k
      cases hk : ixN l.length k with
      | none => simp only [hk] at o2; exact o2.elim
      | some j =>
        simp only [hk] at o2
        exact ⟨p, vs, k, j, rfl, r2.toInt, h3', by rw [← h4.length]; exact hk, o2 _ _ _ (S2.upd h1 (fun _ => h2) (h4'.set (S1.rep x2 r1) j))⟩
theorem RepL.erase {g : G} {H : Hp} {A : Addr → Prop} : ∀ {l : List D} {vs : List V} (n : Nat), RepL g H A l vs → RepL g H A (l.eraseIdx n) (vs.eraseIdx n)
  | [], vs, n, h => by rw [h.toNil]; simp; exact RepL.nil
  | d :: l, vs, 0, h => by
    obtain ⟨v, r, rfl, hv, hr⟩ := h.toCons
    exact hr
  | d :: l, vs, n + 1, h => by
    obtain ⟨v, r, rfl, hv, hr⟩ := h.toCons
    exact RepL.cons hv (RepL.erase n hr)
end
end DL
set_option Elab.async false
set_option linter.all false
set_option maxRecDepth 100000
namespace DL
open PySem PySem.Spec PyProof.Rows L2
open Sem (wp)
open AutoSeq1 (wpAny_loadPart')
set_option maxHeartbeats 1000000 in
theorem meets_enumerate_newT (l : Addr) (items : Array Value) (n : Nat) (dct : Option Addr) (sl : Array (Option Value)) :
    Meets (Builtin.«enumerate.__new__» ⟨[.type "enumerate", .ref l], []⟩) (fun _ R s => s.heap.get? l = some { cls := .type "tuple", dict := dct, data := .seq items n, slots := sl } ∧
      R (.ok (.ret (.ref (s.heap.push { cls := .type "tuple_iterator", data := .fields #[.ref l, .int 0 0] }).objs.size)))
        { s with heap := (s.heap.push { cls := .type "tuple_iterator", data := .fields #[.ref l, .int 0 0] }).push { cls := .type "enumerate", data := .fields #[.none, .bool false, .ref s.heap.objs.size, rawInt 0, .none, .none] } }) :=
  .of_wp fun prog w A R s h => by
    obtain ⟨hp, g, d, tk, os⟩ := s; obtain ⟨hl, h⟩ := h
    have hsub := sub_enumerate
    have hL : Heap.IsTuple (Shared.heap ⟨hp, g, d, tk, os⟩) l items := ⟨_, hl, rfl, n, rfl⟩
    wp_walk using wpAny_loadPart' hl
    refine wpAny_stack_any fun st => wpAny_pure ?_
    split
    · rename_i c _ _ _ _ _
      cases (c == Value.type "enumerate")
      · wp_walk using wpAny_loadPart' hl, wpAny_pyIter_tuple hL
        exact ⟨_, rfl, h⟩
      · wp_walk using wpAny_loadPart' hl, wpAny_pyIter_tuple hL
        exact ⟨_, rfl, h⟩
    · wp_walk using wpAny_loadPart' hl, wpAny_pyIter_tuple hL
      exact ⟨_, rfl, h⟩
theorem call_enumerate_tuple {prog : Program} {w : World} {A : Around} {E : Value → Shared → Prop} {s : Shared} {l : Addr} {items : Array Value} {Q : Value → Shared → Prop} (hL : s.heap.IsTuple l items)
    (h : ∀ h', IsEnum h' (s.heap.objs.size + 1) s.heap.objs.size 0 .none → h'.IsTupleIter s.heap.objs.size l 0 → h'.objs.size = s.heap.objs.size + 2 →
      (∀ b o, s.heap.get? b = some o → h'.get? b = some o) → Q (.ref (s.heap.objs.size + 1)) { s with heap := h' }) :
    wpAny (model prog w) A (call (.type "enumerate") [.ref l]) Q E s := by
  obtain ⟨⟨c, dct, dt, sl⟩, hl, hc, n, hd⟩ := hL
  replace hc : c = .type "tuple" := hc
  replace hd : dt = .seq items n := hd
  subst hc hd
  refine callType_new F.called_enumerate (by decide) (F.typeCall_enumerate_1 _) (F.newCall_enumerate_1 _) (fun obj => F.args_object_init_2 obj _) F.entry_enumerate_new
    (meets_enumerate_newT l items n dct sl) ⟨hl, ?_⟩
  have hz : (s.heap.push { cls := .type "tuple_iterator", data := .fields #[.ref l, .int 0 0] }).objs.size = s.heap.objs.size + 1 := Heap.size_push ..
  show _ ∧ _
  rw [hz]
  have he : IsEnum ((s.heap.push { cls := .type "tuple_iterator", data := .fields #[.ref l, .int 0 0] }).push
      { cls := .type "enumerate", data := .fields #[.none, .bool false, .ref s.heap.objs.size, rawInt 0, .none, .none] }) (s.heap.objs.size + 1) s.heap.objs.size 0 .none := by
    have := Heap.get?_push_size (s.heap.push { cls := .type "tuple_iterator", data := .fields #[.ref l, .int 0 0] })
      (o := { cls := .type "enumerate", data := .fields #[.none, .bool false, .ref s.heap.objs.size, rawInt 0, .none, .none] }) rfl
    rw [hz] at this; exact this
  refine ⟨⟨_, he, rfl⟩, h _ he ⟨_, Heap.get?_push_of_some _ (Heap.get?_push_size _ rfl), rfl, rfl⟩ (by rw [Heap.size_push, hz]) fun b o x => Heap.get?_push_of_some _ (Heap.get?_push_of_some _ x)⟩
theorem pyNext_enumT_end {prog : Program} {w : World} {A : Around} {E : Value → Shared → Prop} {s : Shared} {e it l : Addr} {i : Nat} {items : Array Value} {old : Value} {Q : Option Value → Shared → Prop} (hh : A.handled = none)
    (he : IsEnum s.heap e it i old) (hit : s.heap.IsTupleIter it l i) (hl : s.heap.IsTuple l items) (hx : items[i]? = none)
    (hQ : ∀ h', Heap.ExtBut it s.heap h' → Q none { s with heap := h' }) : wpAny (model prog w) A (pyNext (.ref e)) Q E s := by
  have hT : s.TypeIs (.ref e) "enumerate" := ⟨_, he, rfl⟩
  unfold pyNext
  refine wpAny_bind (wpAny_attempt (wpAny_callSpecial?_slot (name := Str.ofString "__next__") hT F.slot_enumerate_next
    (wpAny_call_entry F.slot_enumerate_next hT F.entry_enumerate_next ?_ (F.args_enumerate_next_1 _))))
  show wpAny _ _ (field (.ref e) 2 >>= _) _ _ _
  refine wpAny_bind (wpAny_field he rfl (x := .ref it) rfl ?_)
  refine wpAny_bind (wpAny_nextOf_tuple_end hh hit hl hx fun h' x he' hx' => ?_)
  obtain ⟨o, ho, hc⟩ := hx'
  refine wpAny_bind (wpAny_isInstance (T := "StopIteration") (b := true) ⟨o, ho, hc⟩ isSubtype_stop ?_)
  exact wpAny_pure (hQ _ he')
def IteT (K : PySem.W.Frag) (a : Addr) : It :=
  ⟨fun i H => ∃ (xs : List V) (x : V), SqT K H a xs ∧ xs[i]? = some x, fun i H v H' => ∃ T x, v = .ref T ∧ H T = none ∧ H' = upd H T (.tup [.int (i : Nat), x]) ∧ ∀ xs, SqT K H a xs → xs[i]? = some x, fun i H => ∃ xs : List V, SqT K H a xs ∧ xs.length ≤ i⟩
theorem turn_enumT {P : Program} {w : World} {K : PySem.W.Frag} {elts : List Expr} {kk : Nat} {tpos : Pos} (a e it : Addr) :
    Turn P w K (.Tuple elts kk tpos) (IteT K a) [e, it] e (fun i h => (∃ old, IsEnum h e it ((i : Nat) : Int) old) ∧ h.IsTupleIter it a i ∧ e ≠ it ∧ e ≠ a ∧ a ≠ it) where
  mem := by simp
  obj := fun i h st b hb => by
    obtain ⟨⟨old, he⟩, ⟨o, ho, hc, hd⟩, _⟩ := st
    have e' : b = e ∨ b = it := by simpa using hb
    rcases e' with z | z
    · rw [z]; exact ⟨_, he, fun v q => nomatch q⟩
    · rw [z]; exact ⟨o, ho, fun v q => by rw [hd] at q; cases q⟩
  keep := fun i h h' st k => let ⟨⟨old, he⟩, hi, hne⟩ := st; ⟨⟨old, k e (by simp) _ he⟩, hi.at fun o q => k it (by simp) o q, hne⟩
  item := by
    intro X hP hw hK hc i pins s σ H E I hf st hg
    subst hP hw hK
    obtain ⟨⟨old, he⟩, hit, hne, hea, hai⟩ := st
    obtain ⟨xs, x, hq, hx⟩ := hg
    obtain ⟨its, rv, p, hz⟩ := I.tuple hq
    obtain ⟨u, hu, ru⟩ := rv.get hx
    have hel : e < s.heap.objs.size := Heap.lt_size he
    have hil : it < s.heap.objs.size := by obtain ⟨_, q, _⟩ := hit; exact Heap.lt_size q
    have hh : X.A.in1.handled = none := I.ok.hd hc
    have hlt : i < its.toArray.size := by
      have := (List.getElem?_eq_some_iff.mp hu).1
      simpa using this
    refine wpAny_pyNext_enum_itemD (Draws.tuple (prog := X.prog) (w := X.w) hh it a hai its.toArray) he ⟨hit, p⟩ hlt hne (by simp [hne, hea]) fun x2 h' tk hP2 ho hst' hT hsz hk => ?_
    have hx2 : x2 = u := by
      have z : its.toArray[i]? = some x2 := hP2
      rw [List.getElem?_toArray, hu] at z
      exact (Option.some.inj z).symm
    subst hx2
    refine ⟨_, rfl, wpAny_letOwnedTupleGo_enum (s := { s with heap := h', toks := tk + 1 }) ho fun h'' he' sb => ?_⟩
    have hT2 : h''.get? s.heap.objs.size = some { cls := .type "tuple", data := .seq #[.int i tk, x2] } := (sb.2 _ (Nat.ne_of_gt hel)).trans hT
    have new : ObjOk X.prog X.w (upd H s.heap.objs.size (.tup [.int (i : Nat), x])) h'' s.heap.objs.size (.tup [.int (i : Nat), x]) :=
      ⟨by show 2 ≤ sizeLine; decide, [.int i tk, x2], .cons ⟨_, rfl⟩ (.cons ru .nil), ⟨_, hT2, rfl, _, rfl⟩⟩
    have I1 : Inv X pins σ (upd H s.heap.objs.size (.tup [.int (i : Nat), x])) { s with heap := h'', toks := tk + 1 } :=
      I.turnedNew (t' := tk + 1) (ch := [e, it]) (fun b ob hb q => (sb.2 b (fun z => hb (by simp [z]))).trans (hk b ob (fun z => hb (by simp [z])) (fun z => hb (by simp [z])) q)) hf (Nat.le_refl _) new
    refine ⟨.ref s.heap.objs.size, _, I1, rfl, ⟨_, x, rfl, I.hok.fresh (Nat.le_refl _), rfl, fun ys hy => by rw [I.tuple_inj hy hq]; exact hx⟩, ⟨⟨x2, ?_⟩, hst'.1.at fun o q => (sb.2 it (Ne.symm hne)).trans q, hne, hea, hai⟩, fun b hb => ?_⟩
    · have e1 : ((i + 1 : Nat) : Int) = (i : Int) + 1 := by omega
      rw [e1]; exact he'
    · have hb' : b < s.heap.objs.size := by
        have e' : b = e ∨ b = it := by simpa using hb
        rcases e' with z | z
        · rw [z]; exact hel
        · rw [z]; exact hil
      rw [upd_ne (Nat.ne_of_lt hb')]
      exact (hf b hb).1
  done := by
    intro X hP hw hK hc i pins s σ H E I hf st hg
    subst hP hw hK
    obtain ⟨⟨old, he⟩, hit, hne, hea, hai⟩ := st
    obtain ⟨xs, hq, hx⟩ := hg
    obtain ⟨its, rv, p, hz⟩ := I.tuple hq
    obtain ⟨f0, f1, f2, f3, f4, f5⟩ := hf it (by simp)
    have hl := rv.length
    have hh : X.A.handled = none := I.ok.hd hc
    exact pyNext_enumT_end hh he hit p (by simp; omega) fun h' eb => ⟨rfl, I.turned (t' := s.toks) (fun b o hb q => eb b o hb q) f0 f1 f3 f4 f5⟩
  self := fun A i s Q E st h => let ⟨⟨_, he⟩, _⟩ := st; wpAny_pyIter_enum he h
def iEnumA (K : PySem.W.Frag) (ta : TA) : TI := fun σ H R => ta σ H fun vs H1 => ∃ a xs, vs = [.ref a] ∧ ((SqL K H1 a xs ∧ R (Ite K a) H1) ∨ (SqT K H1 a xs ∧ R (IteT K a) H1))
theorem pi_enumA {X : Cx} {e : Expr} {ta : TA} {p pos tpos : Pos} {elts : List Expr} {kk : Nat} (hg : Gl X "enumerate") (hm : X.mg "enumerate" = none) (ha : PA X [e] ta) (hs : starEach [e] X.env = [(false, eval e X.env)] := by rfl) :
    PI X (.Tuple elts kk tpos) (.Call (.Name "enumerate" p) [e] [] pos) (iEnumA X.K ta) := by
  refine ⟨fun pins s σ H R I h => ?_⟩
  refine Call_ (ld_blt I hg hm boot_enumerate (PyProof.Rows.callWith_type1 (thn (ha.run pos pins s σ H _ I h) fun us s1 ⟨vs, H1, I1, r1, q1⟩ => ?_) hs rfl))
  obtain ⟨a, xs, ex, q1⟩ := q1
  subst ex
  cases r1 with
  | cons r rr =>
    cases rr
    cases r
    have fresh : ∀ b, b ∈ [s1.heap.objs.size + 1, s1.heap.objs.size] → FpOk X pins H1 b := fun b hb => by
      have e' : b = s1.heap.objs.size + 1 ∨ b = s1.heap.objs.size := by simpa using hb
      have hle : s1.heap.objs.size ≤ b := by
        rcases e' with z | z
        · rw [z]; exact Nat.le_add_right _ _
        · rw [z]; exact Nat.le_refl _
      exact I1.fpOk hle (I1.hok.fresh hle)
    rcases q1 with ⟨hq, q⟩ | ⟨hq, q⟩
    · obtain ⟨its, rv, p', hz⟩ := I1.list hq
      refine call_enumerate_list p'.isList fun h' he hit hsz hk => wpAny_pyIter_enum he ?_
      have I2 : Inv X pins σ H1 { s1 with heap := h' } := I1.kept (t' := s1.toks) hk
      exact ⟨s1.heap.objs.size + 1, [s1.heap.objs.size + 1, s1.heap.objs.size], _, _, H1, rfl, I2, turn_enum a (s1.heap.objs.size + 1) s1.heap.objs.size, ⟨⟨.none, he⟩, hit, Nat.succ_ne_self _⟩, fresh, q⟩
    · obtain ⟨its, rv, p', hz⟩ := I1.tuple hq
      obtain ⟨o1, ho1, _⟩ := id p'
      have hlt : a < s1.heap.objs.size := Heap.lt_size ho1
      refine call_enumerate_tuple (show s1.heap.IsTuple a its.toArray from p') fun h' he hit hsz hk => wpAny_pyIter_enum he ?_
      have I2 : Inv X pins σ H1 { s1 with heap := h' } := I1.kept (t' := s1.toks) hk
      exact ⟨s1.heap.objs.size + 1, [s1.heap.objs.size + 1, s1.heap.objs.size], _, _, H1, rfl, I2, turn_enumT a (s1.heap.objs.size + 1) s1.heap.objs.size, ⟨⟨.none, he⟩, hit, Nat.succ_ne_self _, Nat.ne_of_gt (Nat.lt_succ_of_lt hlt), Nat.ne_of_lt hlt⟩, fresh, q⟩
theorem walk_enumT {K : PySem.W.Frag} {a : Addr} {xs : List V} : Walk (IteT K a) xs.length (fun H => SqT K H a xs) (YPair (fun i => some (.int (i : Nat))) fun i => xs[i]?) := by
  refine ⟨fun i _ hi q => ⟨xs, xs[i], q, by simp [hi]⟩, fun _ q => ⟨xs, q, Nat.le_refl _⟩, fun i H v H' _ q y => ?_⟩
  obtain ⟨T, x, h1, h2, h3, h4⟩ := y
  exact ⟨T, .int (i : Nat), x, h1, h2, h3, rfl, h4 xs q⟩
end DL
set_option Elab.async false
set_option linter.all false
set_option maxRecDepth 100000
namespace DL
open PySem L2
def KeepN (C : Ctx) (own : Own) (H H' : Hp) : Prop := ∀ a o, H a = some o → (∀ j, own j ≠ some a) → ¬ C.io a → H' a = some o
def Ctx.AW (C : Ctx) (own : Own) (H : Hp) (a : Addr) : Prop := C.Al own a ∧ ∃ o, H a = some o
def WalkD (C : Ctx) (own : Own) (H1 : Hp) (J : It) (ds : List D) : Prop :=
  ∃ (G : Hp → Prop) (Y : Nat → Hp → V → Hp → Prop), Walk J ds.length G Y ∧ (∀ H, KeepN C own H1 H → G H) ∧
    ∀ i H x H', i < ds.length → KeepN C own H1 H → Y i H x H' → Same H H' ∧ ∃ d, ds[i]? = some d ∧ Rep C.g H' (C.AW own H1) d x
def OutI (C : Ctx) (own : Own) (F : Hp) (σ : L2.St) (e : En) (H : Hp) (r : Res (List D × Rng)) (R : It → Hp → Prop) : Prop :=
  match r with
  | .ok (ds, g') => ∀ H1 J, ExtI C H H1 → SR C own F H1 σ e g' → WalkD C own H1 J ds → R J H1
  | .err x => ∀ H' c dd, ExtI C H H' → (∃ g', SR C own F H' σ e g') → RepX C.g H' (C.Al own) x c dd → C.W c dd σ H'
  | .stuck => False
def tDI (C : Ctx) (f : MA) : TI := fun σ H R => ∃ own F e g, SR C own F H σ e g ∧ OutI C own F σ e H (f e g) R
def DI (C : Ctx) (tg iter : Expr) (f : MA) : Prop := PI C.X tg iter (tDI C f)
theorem pi_imp {X : Cx} {tg x : Expr} {t t' : TI} (h : PI X tg x t) (i : ∀ σ H Q, t' σ H Q → t σ H Q) : PI X tg x t' := ⟨fun pins s σ H Q I q => h.run pins s σ H Q I (i σ H Q q)⟩
theorem pg_imp {X : Cx} {tg : Expr} {t t' : TG} (h : PG X tg t) (i : ∀ v σ H Q, t' v σ H Q → t v σ H Q) : PG X tg t' := ⟨fun pins s σ H v u Q I r q => h.run pins s σ H v u Q I r (i v σ H Q q)⟩
theorem pgs_imp {X : Cx} {tg : List Expr} {t t' : TGs} (h : PGs X tg t) (i : ∀ v σ H Q, t' v σ H Q → t v σ H Q) : PGs X tg t' := ⟨fun pins s σ H v u Q I r q => h.run pins s σ H v u Q I r (i v σ H Q q)⟩
section
variable {C : Ctx} {x a b tg : Expr} {fa fb : ME} {pos : Pos}
theorem KeepN.keep {own : Own} {F H H' : Hp} {σ : L2.St} {e : En} {g : Rng} (S : SR C own F H σ e g) (k : KeepN C own H H') : Keep (C.AW own H) H H' := by
  have nn : ∀ a xs, Rd H a (.tup xs) → (∀ j, own j ≠ some a) ∧ ¬ C.io a := fun a xs h => ⟨fun j hj => by
    obtain ⟨⟨ys, hy⟩, _⟩ := S.on j a hj
    rcases h with h | ⟨o, h⟩ <;> (rw [hy] at h; cases h), fun hi => by
    obtain ⟨ob, hy, hm⟩ := S.io a hi
    rcases hm with ⟨ys, rfl⟩ | ⟨ys, rfl⟩ | ⟨ys, rfl⟩ <;> rcases h with h | ⟨o, h⟩ <;> (rw [hy] at h; cases h)⟩
  refine ⟨fun a xs h => ?_, fun a o h1 h2 => k a o h2 h1.1.2.1 h1.1.2.2, fun a xs h => k _ _ h (nn a xs (.inl h)).1 (nn a xs (.inl h)).2⟩
  obtain ⟨n, n2⟩ := nn a xs h
  rcases h with h | ⟨o, h⟩
  · exact .inl (k _ _ h n n2)
  · exact .inr ⟨o, k _ _ h n n2⟩
theorem rep_AW {own : Own} {H : Hp} {d : D} {v : V} (h : Rep C.g H (C.Al own) d v) : Rep C.g H (C.AW own H) d v := h.mono (.same fun _ _ z => z) fun a q z => ⟨q, z⟩
theorem walkD_list {own : Own} {F H : Hp} {σ : L2.St} {e : En} {g : Rng} {ar : Addr} {l : List D} {vs : List V} (S : SR C own F H σ e g) (ha : C.Al own ar) (h : H ar = some (.lst vs)) (r : RepL C.g H (C.Al own) l vs) : WalkD C own H (Itl C.X.K ar) l := by
  refine ⟨_, _, by rw [r.length]; exact walk_list (K := C.X.K) (a := ar) (xs := vs), fun H' k => SqL.of (k _ _ h ha.2.1 ha.2.2), fun i H' x H'' hi k y => ?_⟩
  obtain ⟨rfl, hx⟩ := y
  obtain ⟨d, e1, e2⟩ := r.getV hx
  exact ⟨fun _ _ z => z, d, e1, (rep_AW e2).mono (k.keep S) fun a q _ => q⟩
theorem walkD_tup {own : Own} {F H : Hp} {σ : L2.St} {e : En} {g : Rng} {ar : Addr} {l : List D} {vs : List V} (S : SR C own F H σ e g) (h : SqT C.X.K H ar vs) (r : RepL C.g H (C.Al own) l vs) : WalkD C own H (Itt C.X.K ar) l := by
  refine ⟨_, _, by rw [r.length]; exact walk_tup (K := C.X.K) (a := ar) (xs := vs), fun H' k => (k.keep S).sqT h, fun i H' x H'' hi k y => ?_⟩
  obtain ⟨rfl, hx⟩ := y
  obtain ⟨d, e1, e2⟩ := r.getV hx
  exact ⟨fun _ _ z => z, d, e1, (rep_AW e2).mono (k.keep S) fun a q _ => q⟩
def strD (z : Str) : List D := z.cps.toList.map fun c => .str ⟨#[c]⟩
theorem walkD_str {own : Own} {H : Hp} {z : Str} : WalkD C own H (Its z) (strD z) := by
  refine ⟨_, _, by unfold strD; rw [List.length_map, Array.length_toList]; exact walk_str (z := z), fun _ _ => trivial, fun i H' x H'' hi k y => ?_⟩
  obtain ⟨rfl, c, hc, rfl⟩ := y
  refine ⟨fun _ _ z => z, .str ⟨#[c]⟩, ?_, .str_ _⟩
  unfold strD
  rw [List.getElem?_map, Array.getElem?_toList, hc]; rfl
theorem pi_seq {X : Cx} {l : Expr} {tl : TE} (hl : PE X l tl) : PI X tg l (fun σ H R => tl σ H fun x H1 => (∃ a, x = .ref a ∧ (∃ xs, SqL X.K H1 a xs) ∧ R (Itl X.K a) H1) ∨ (∃ a, x = .ref a ∧ (∃ xs, SqT X.K H1 a xs) ∧ R (Itt X.K a) H1) ∨ ∃ z, x = .str z ∧ R (Its z) H1) := by
  refine ⟨fun pins s σ H R I h => ?_⟩
  refine thn (hl.run pins s σ H _ I h) fun v s1 ⟨x, H1, I1, r1, q1⟩ => ?_
  rcases q1 with ⟨a, e, ⟨xs, hq⟩, q⟩ | ⟨a, e, ⟨xs, hq⟩, q⟩ | ⟨z, e, q⟩
  · subst e
    cases r1
    obtain ⟨its, rv, p, hz⟩ := I1.list hq
    refine wpAny_pyIter_list p.isList ?_
    refine ⟨s1.heap.objs.size, [s1.heap.objs.size], _, _, H1, rfl, I1.kept (t' := s1.toks) fun b o e => Heap.get?_push_of_some _ e, turn_list a _, ⟨_, Heap.get?_push_size _ rfl, rfl, rfl⟩, fun b hb => ?_, q⟩
    have e : b = s1.heap.objs.size := by simpa using hb
    subst e
    exact I1.fpOk (Nat.le_refl _) (I1.hok.fresh (Nat.le_refl _))
  · subst e
    cases r1
    obtain ⟨its, rv, p, hz⟩ := I1.tuple hq
    refine wpAny_pyIter_tuple (show s1.heap.IsTuple a its.toArray from p) ?_
    refine ⟨s1.heap.objs.size, [s1.heap.objs.size], _, _, H1, rfl, I1.kept (t' := s1.toks) fun b o e => Heap.get?_push_of_some _ e, turn_tuple a _, ⟨_, Heap.get?_push_size _ rfl, rfl, rfl⟩, fun b hb => ?_, q⟩
    have e : b = s1.heap.objs.size := by simpa using hb
    subst e
    exact I1.fpOk (Nat.le_refl _) (I1.hok.fresh (Nat.le_refl _))
  · subst e
    obtain ⟨t, rfl⟩ := r1
    cases ha : z.cps.all (· < 128)
    · exact wpAny_pyIter_wide ha (pi_one (tk := s1.toks) I1 _ (turn_str _ z t "str_iterator" (.inr rfl)) ⟨_, Heap.get?_push_size _ rfl, rfl, rfl⟩ q)
    · exact wpAny_pyIter_ascii ha (pi_one (tk := s1.toks) I1 _ (turn_str _ z t "str_ascii_iterator" (.inl rfl)) ⟨_, Heap.get?_push_size _ rfl, rfl, rfl⟩ q)
theorem OutI.bindE {own : Own} {F H : Hp} {σ : L2.St} {e : En} {r : Res (D × Rng)} {k : D × Rng → Res (List D × Rng)} {R : It → Hp → Prop} {Q1 : VK} (h : OutI C own F σ e H (r.bind k) R)
    (hq : ∀ d g1 H1 v, ExtI C H H1 → SR C own F H1 σ e g1 → Rep C.g H1 (C.Al own) d v → OutI C own F σ e H1 (k (d, g1)) R → Q1 v H1) : OutE C own F σ e H r Q1 := by
  cases r with
  | ok a =>
    obtain ⟨d, g1⟩ := a
    intro H1 v x S r1
    refine hq d g1 H1 v x S r1 ?_
    have h' : OutI C own F σ e H (k (d, g1)) R := h
    cases hk : k (d, g1) with
    | ok a => rw [hk] at h'; exact fun H2 J x2 => h' H2 J (x.trans x2)
    | err y => rw [hk] at h'; exact fun H2 c dd x2 => h' H2 c dd (x.trans x2)
    | stuck => rw [hk] at h'; exact h'
  | err y => exact h
  | stuck => exact h
theorem OutI.bindA {own : Own} {F H : Hp} {σ : L2.St} {e : En} {r : Res (List D × Rng)} {k : List D × Rng → Res (List D × Rng)} {R : It → Hp → Prop} {Q1 : List V → Hp → Prop} (h : OutI C own F σ e H (r.bind k) R)
    (hq : ∀ d g1 H1 v, ExtI C H H1 → SR C own F H1 σ e g1 → RepL C.g H1 (C.Al own) d v → OutI C own F σ e H1 (k (d, g1)) R → Q1 v H1) : OutA C own F σ e H r Q1 := by
  cases r with
  | ok a =>
    obtain ⟨d, g1⟩ := a
    intro H1 v x S r1
    refine hq d g1 H1 v x S r1 ?_
    have h' : OutI C own F σ e H (k (d, g1)) R := h
    cases hk : k (d, g1) with
    | ok a => rw [hk] at h'; exact fun H2 J x2 => h' H2 J (x.trans x2)
    | err y => rw [hk] at h'; exact fun H2 c dd x2 => h' H2 c dd (x.trans x2)
    | stuck => rw [hk] at h'; exact h'
  | err y => exact h
  | stuck => exact h
def dItems : D → Res (List D)
  | .lst l => .ok l
  | .tup l => .ok l
  | .str z => .ok (strD z)
  | _ => .stuck
def iSeqD (f : ME) : MA := fun e g => (f e g).bind fun p => (dItems p.1).bind fun l => .ok (l, p.2)
theorem di_seq (ha : DE C a fa) : DI C tg a (iSeqD fa) := pi_imp (pi_seq ha) fun σ H R ⟨own, F, e, g, S, o⟩ => ⟨own, F, e, g, S, OutI.bindE o fun d g1 H1 v x1 S1 r1 o1 => by
  cases d <;> first | exact o1.elim | skip
  · rename_i z
    exact .inr (.inr ⟨z, r1.toStr, o1 H1 _ (.refl H1) S1 walkD_str⟩)
  · obtain ⟨ar, vs, rfl, h1, h2⟩ := r1.toTup
    exact .inr (.inl ⟨ar, rfl, ⟨vs, h1⟩, o1 H1 _ (.refl H1) S1 (walkD_tup S1 h1 h2)⟩)
  · obtain ⟨ar, vs, rfl, h0, h1, h2⟩ := r1.toLst
    exact .inl ⟨ar, rfl, ⟨vs, SqL.of h1⟩, o1 H1 _ (.refl H1) S1 (walkD_list S1 h0 h1 h2)⟩⟩
def rangeD (lo : Int) (n : Nat) : List D := (List.range n).map fun (i : Nat) => .int (lo + (i : Int))
theorem walkD_range {own : Own} {H : Hp} {lo : Int} {n : Nat} : WalkD C own H (Itr lo n) (rangeD lo n) := by
  refine ⟨_, _, by unfold rangeD; rw [List.length_map, List.length_range]; exact walk_range (lo := lo) (n := n), fun _ _ => trivial, fun i H' x H'' hi k y => ?_⟩
  obtain ⟨rfl, rfl⟩ := y
  unfold rangeD at hi ⊢
  rw [List.length_map, List.length_range] at hi
  exact ⟨fun _ _ z => z, .int (lo + (i : Int)), by rw [List.getElem?_map, List.getElem?_range hi]; rfl, .int_ _⟩
def iRange (f : MA) : MA := fun e g => (f e g).bind fun p => match p.1 with
  | [.int n] => if -100000 ≤ n ∧ n ≤ 100000 then .ok (rangeD 0 n.toNat, p.2) else .stuck
  | [.int m, .int n] => if -100000 ≤ m ∧ m ≤ 100000 ∧ -100000 ≤ n ∧ n ≤ 100000 then .ok (rangeD m (n - m).toNat, p.2) else .stuck
  | _ => .stuck
theorem di_range1 {fs : MA} {p : Pos} (hg : Gl C.X "range") (hm : C.X.mg "range" = none) (ha : DA C [a] fs) (hs : starEach [a] C.X.env = [(false, eval a C.X.env)] := by rfl) (hl : ∀ e g r, fs e g = .ok r → r.1.length = 1) : DI C tg (.Call (.Name "range" p) [a] [] pos) (iRange fs) :=
  pi_imp (pi_range1 hg hm ha hs) fun σ H R ⟨own, F, e, g, S, o⟩ => by
    unfold iRange at o
    refine ⟨own, F, e, g, S, ?_⟩
    cases hf : fs e g with
    | ok q =>
      obtain ⟨l, g1⟩ := q
      rw [hf] at o
      have h1 := hl e g _ hf
      intro H1 vs x S1 r1
      cases l with
      | nil => cases h1
      | cons d l =>
        cases l with
        | cons => cases h1
        | nil =>
          cases d <;> first | exact o.elim | skip
          rename_i n
          obtain ⟨v, rfl, hv⟩ := one_of r1
          by_cases hn : -100000 ≤ n ∧ n ≤ 100000
          · simp only [Res.bind, hn, and_self, if_true] at o
            exact ⟨n, by rw [hv.toInt], by omega, by omega, o H1 _ x S1 walkD_range⟩
          · simp only [Res.bind, hn, if_false] at o; exact o.elim
    | err y => rw [hf] at o; exact o
    | stuck => rw [hf] at o; exact o
theorem walkD_pair {own : Own} {F H : Hp} {σ : L2.St} {e : En} {g : Rng} {J : It} {n : Nat} {GG : Hp → Prop} {f1 f2 : Nat → Option V} {ds : List D} (S : SR C own F H σ e g) (w : Walk J n GG (YPair f1 f2)) (hn : ds.length = n) (hG : ∀ H', KeepN C own H H' → GG H')
    (hd : ∀ (i : Nat) x y, f1 i = some x → f2 i = some y → ∃ d1 d2, ds[i]? = some (.tup [d1, d2]) ∧ Rep C.g H (C.Al own) d1 x ∧ Rep C.g H (C.Al own) d2 y) : WalkD C own H J ds := by
  refine ⟨GG, _, by rw [hn]; exact w, hG, fun i H' x H'' hi k y => ?_⟩
  obtain ⟨T, u, v, rfl, nT, rfl, e1, e2⟩ := y
  obtain ⟨d1, d2, h1, h2, h3⟩ := hd i u v e1 e2
  have s : Same H' (upd H' T (.tup [u, v])) := fun a o z => by rw [upd_ne (ne_of_none z nT)]; exact z
  have up : ∀ {d : D} {v' : V}, Rep C.g H (C.Al own) d v' → Rep C.g (upd H' T (.tup [u, v])) (C.AW own H) d v' := fun r => ((rep_AW r).mono (k.keep S) fun a q _ => q).mono (.same s) fun a q _ => q
  exact ⟨s, _, h1, .tup_ (.inl (.inl upd_same)) (.cons (up h2) (.cons (up h3) .nil))⟩
def dZip : List D → Res (List D)
  | [.lst l, .lst m] => .ok ((l.zip m).map fun q => .tup [q.1, q.2])
  | [.tup l, .tup m] => .ok ((l.zip m).map fun q => .tup [q.1, q.2])
  | _ => .stuck
theorem walk_zipT {K : PySem.W.Frag} {a b : Addr} {xs ys : List V} {n : Nat} (hn : n = min xs.length ys.length) : Walk (RZ.ItzT K a b) n (fun H => SqT K H a xs ∧ SqT K H b ys) (YPair (fun i => xs[i]?) (fun i => ys[i]?)) := by
  subst hn
  refine ⟨fun i _ hi q => ?_, fun _ q => ⟨xs, ys, q.1, q.2, by omega⟩, fun i H v H' _ q y => ?_⟩
  · have h1 : i < xs.length := by omega
    have h2 : i < ys.length := by omega
    exact ⟨xs, ys, xs[i], ys[i], q.1, q.2, by simp [h1], by simp [h2]⟩
  · obtain ⟨T, x, z, h1, h2, h3, h4, h5⟩ := y
    exact ⟨T, x, z, h1, h2, h3, h4 xs q.1, h5 ys q.2⟩
def dEnum : List D → Res (List D)
  | [.lst l] => .ok (l.mapIdx fun i d => .tup [.int (i : Nat), d])
  | [.tup l] => .ok (l.mapIdx fun i d => .tup [.int (i : Nat), d])
  | _ => .stuck
theorem dZip_ok {l m : List D} (h : dZip l = .ok m) : ∃ a b, (l = [.lst a, .lst b] ∨ l = [.tup a, .tup b]) ∧ m = (a.zip b).map fun q => .tup [q.1, q.2] := by
  unfold dZip at h
  split at h
  · exact ⟨_, _, .inl rfl, (Res.ok.inj h).symm⟩
  · exact ⟨_, _, .inr rfl, (Res.ok.inj h).symm⟩
  · cases h
theorem dEnum_ok {l m : List D} (h : dEnum l = .ok m) : ∃ a, (l = [.lst a] ∨ l = [.tup a]) ∧ m = a.mapIdx fun i d => .tup [.int (i : Nat), d] := by
  unfold dEnum at h
  split at h
  · exact ⟨_, .inl rfl, (Res.ok.inj h).symm⟩
  · exact ⟨_, .inr rfl, (Res.ok.inj h).symm⟩
  · cases h
theorem dZip_nx (l : List D) (x : Exc) : dZip l ≠ .err x := by
  unfold dZip
  split <;> exact fun h => nomatch h
theorem dEnum_nx (l : List D) (x : Exc) : dEnum l ≠ .err x := by
  unfold dEnum
  split <;> exact fun h => nomatch h
def iZipD (f : MA) : MA := fun e g => (f e g).bind fun p => (dZip p.1).bind fun l => .ok (l, p.2)
def iEnumD (f : MA) : MA := fun e g => (f e g).bind fun p => (dEnum p.1).bind fun l => .ok (l, p.2)
theorem zip_tup {l m : List D} {xs ys : List V} {H : Hp} {A : Addr → Prop} (hx : RepL C.g H A l xs) (hy : RepL C.g H A m ys) (i : Nat) (u v : V) (e1 : xs[i]? = some u) (e2 : ys[i]? = some v) : ∃ d1 d2, ((l.zip m).map fun q => D.tup [q.1, q.2])[i]? = some (.tup [d1, d2]) ∧ Rep C.g H A d1 u ∧ Rep C.g H A d2 v := by
  obtain ⟨d1, h1, h2⟩ := hx.getV e1
  obtain ⟨d2, h3, h4⟩ := hy.getV e2
  refine ⟨d1, d2, ?_, h2, h4⟩
  rw [List.getElem?_map, (List.getElem?_zip_eq_some (z := (d1, d2))).mpr ⟨h1, h3⟩]; rfl
theorem di_zip {fs : MA} (h : ∀ {t : TA}, PA C.X [a, b] t → PI C.X tg x (RZ.iZipA C.X.K t)) (ha : DA C [a, b] fs) : DI C tg x (iZipD fs) :=
  pi_imp (h ha) fun σ H R ⟨own, F, e, g, S, o⟩ => ⟨own, F, e, g, S, OutI.bindA o fun l g1 H1 vs x1 S1 r1 o1 => by
    cases hz : dZip l with
    | err y => exact (dZip_nx _ _ hz).elim
    | stuck => simp only [hz, Res.bind] at o1; exact o1.elim
    | ok ds =>
      simp only [hz, Res.bind] at o1
      obtain ⟨l1, m, rfl | rfl, rfl⟩ := dZip_ok hz
      · obtain ⟨v, w, rfl, rv, rw_⟩ := two_of r1
        obtain ⟨a1, xs, rfl, ha0, ha1, ha2⟩ := rv.toLst
        obtain ⟨b1, ys, rfl, hb0, hb1, hb2⟩ := rw_.toLst
        refine ⟨a1, b1, xs, ys, rfl, .inl ⟨SqL.of ha1, SqL.of hb1, o1 H1 _ (.refl H1) S1 ?_⟩⟩
        exact walkD_pair (n := min xs.length ys.length) S1 (walk_zip rfl) (by simp [ha2.length, hb2.length]) (fun H' k => ⟨SqL.of (k _ _ ha1 ha0.2.1 ha0.2.2), SqL.of (k _ _ hb1 hb0.2.1 hb0.2.2)⟩) (zip_tup ha2 hb2)
      · obtain ⟨v, w, rfl, rv, rw_⟩ := two_of r1
        obtain ⟨a1, xs, rfl, ha1, ha2⟩ := rv.toTup
        obtain ⟨b1, ys, rfl, hb1, hb2⟩ := rw_.toTup
        refine ⟨a1, b1, xs, ys, rfl, .inr ⟨ha1, hb1, o1 H1 _ (.refl H1) S1 ?_⟩⟩
        exact walkD_pair (n := min xs.length ys.length) S1 (walk_zipT rfl) (by simp [ha2.length, hb2.length]) (fun H' k => ⟨(k.keep S1).sqT ha1, (k.keep S1).sqT hb1⟩) (zip_tup ha2 hb2)⟩
theorem di_enum {fs : MA} (h : ∀ {t : TA}, PA C.X [a] t → PI C.X tg x (iEnumA C.X.K t)) (ha : DA C [a] fs) : DI C tg x (iEnumD fs) :=
  pi_imp (h ha) fun σ H R ⟨own, F, e, g, S, o⟩ => ⟨own, F, e, g, S, OutI.bindA o fun l g1 H1 vs x1 S1 r1 o1 => by
    cases hz : dEnum l with
    | err y => exact (dEnum_nx _ _ hz).elim
    | stuck => simp only [hz, Res.bind] at o1; exact o1.elim
    | ok ds =>
      simp only [hz, Res.bind] at o1
      obtain ⟨l1, rfl | rfl, rfl⟩ := dEnum_ok hz
      · obtain ⟨v, rfl, rv⟩ := one_of r1
        obtain ⟨a1, xs, rfl, ha0, ha1, ha2⟩ := rv.toLst
        refine ⟨a1, xs, rfl, .inl ⟨SqL.of ha1, o1 H1 _ (.refl H1) S1 ?_⟩⟩
        refine walkD_pair (n := xs.length) S1 walk_enum (by simp [ha2.length]) (fun H' k => SqL.of (k _ _ ha1 ha0.2.1 ha0.2.2)) fun i u v e1 e2 => ?_
        obtain ⟨d2, h3, h4⟩ := ha2.getV e2
        cases e1
        refine ⟨.int (i : Nat), d2, ?_, .int_ _, h4⟩
        rw [List.getElem?_mapIdx, h3]; rfl
      · obtain ⟨v, rfl, rv⟩ := one_of r1
        obtain ⟨a1, xs, rfl, ha1, ha2⟩ := rv.toTup
        refine ⟨a1, xs, rfl, .inr ⟨ha1, o1 H1 _ (.refl H1) S1 ?_⟩⟩
        refine walkD_pair (n := xs.length) S1 walk_enumT (by simp [ha2.length]) (fun H' k => (k.keep S1).sqT ha1) fun i u v e1 e2 => ?_
        obtain ⟨d2, h3, h4⟩ := ha2.getV e2
        cases e1
        refine ⟨.int (i : Nat), d2, ?_, .int_ _, h4⟩
        rw [List.getElem?_mapIdx, h3]; rfl⟩
abbrev TgF := D → En → Option En
abbrev TgFs := List D → En → Option En
def OutG (C : Ctx) (own : Own) (F : Hp) (H : Hp) (σ : L2.St) (g : Rng) (ts : List Nat) (r : Option En) (Q : L2.St → Hp → Prop) : Prop := match r with
  | some e' => ∀ σ', SR C (offB ts own) F H σ' e' g → (σ'.length = σ.length ∧ ∀ k, k ∉ ts → σ'[k]? = σ[k]?) → Q σ' H
  | none => False
def tDG (C : Ctx) (ts : List Nat) (tf : TgF) : TG := fun v σ H Q => ∃ own F e g d, SR C own F H σ e g ∧ Rep C.g H (C.Al own) d v ∧ OutG C own F H σ g ts (tf d e) Q
def tDGs (C : Ctx) (ts : List Nat) (tf : TgFs) : TGs := fun vs σ H Q => ∃ own F e g ds, SR C own F H σ e g ∧ RepL C.g H (C.Al own) ds vs ∧ OutG C own F H σ g ts (tf ds e) Q
def DG (C : Ctx) (tg : Expr) (ts : List Nat) (tf : TgF) : Prop := PG C.X tg (tDG C ts tf)
def DGs (C : Ctx) (tg : List Expr) (ts : List Nat) (tf : TgFs) : Prop := PGs C.X tg (tDGs C ts tf)
def gNm (i : Nat) : TgF := fun d e => some (e.set i (.sh d))
theorem dg_name {i : Nat} (h : PG C.X tg (gName i)) : DG C tg [i] (gNm i) := pg_imp h fun v σ H Q ⟨own, F, e, g, d, S, r, o⟩ => o _ (S.set r) ⟨by simp, fun k hk => List.getElem?_set_ne (fun z => hk (by simp [z]))⟩
def gsNil : TgFs := fun ds e => match ds with
  | [] => some e
  | _ => none
def gsCons (t : TgF) (u : TgFs) : TgFs := fun ds e => match ds with
  | d :: r => (t d e).bind fun e' => u r e'
  | [] => none
theorem dgs_nil : DGs C [] [] gsNil := pgs_imp pgs_nil fun vs σ H Q ⟨own, F, e, g, ds, S, r, o⟩ => by
  cases ds with
  | nil => exact ⟨r.toNil, o σ (by rw [offB_nil]; exact S) ⟨rfl, fun _ _ => rfl⟩⟩
  | cons => exact o.elim
theorem offB_offB (ts us : List Nat) (own : Own) : offB us (offB ts own) = offB (ts ++ us) own := by
  funext j
  unfold offB
  by_cases h1 : j ∈ ts <;> by_cases h2 : j ∈ us <;> simp [h1, h2]
theorem dgs_cons {e : Expr} {es : List Expr} {ts us : List Nat} {t : TgF} {u : TgFs} (h1 : DG C e ts t) (h2 : DGs C es us u) (hs : (assignEach (e :: es) C.X.env).map (·.2) = assign e C.X.env :: (assignEach es C.X.env).map (·.2) := by rfl) : DGs C (e :: es) (ts ++ us) (gsCons t u) :=
  pgs_imp (pgs_cons h1 h2 hs) fun vs σ H Q ⟨own, F, en, g, ds, S, r, o⟩ => by
    cases ds with
    | nil => exact o.elim
    | cons d ds =>
      obtain ⟨v, rest, rfl, rv, rr⟩ := r.toCons
      have o' : OutG C own F H σ g (ts ++ us) ((t d en).bind fun e' => u ds e') Q := o
      refine ⟨v, rest, rfl, own, F, en, g, d, S, rv, ?_⟩
      cases ht : t d en with
      | none => rw [ht] at o'; exact o'.elim
      | some e1 =>
        rw [ht] at o'
        intro σ1 S1 k1
        refine ⟨_, F, e1, g, ds, S1, rr.mono (.same fun _ _ z => z) fun a q _ => Al_off q, ?_⟩
        have o2 : OutG C own F H σ g (ts ++ us) (u ds e1) Q := o'
        cases hu : u ds e1 with
        | none => rw [hu] at o2; exact o2.elim
        | some e2 =>
          rw [hu] at o2
          intro σ2 S2 k2
          rw [offB_offB] at S2
          exact o2 σ2 S2 ⟨by rw [k2.1, k1.1], fun k hk => by
            rw [List.mem_append] at hk
            rw [k2.2 k fun z => hk (.inr z), k1.2 k fun z => hk (.inl z)]⟩
def gTp (n : Nat) (u : TgFs) : TgF := fun d e => match d with
  | .tup l => if l.length = n then u l e else none
  | _ => none
theorem dg_tup {es : List Expr} {ts : List Nat} {u : TgFs} {n : Nat} (h : ∀ {t : TGs}, PGs C.X es t → PG C.X tg (gTup C.X.K n t)) (hu : DGs C es ts u) : DG C tg ts (gTp n u) := pg_imp (h hu) fun v σ H Q ⟨own, F, e, g, d, S, r, o⟩ => by
  cases d <;> first | exact o.elim | skip
  rename_i l
  obtain ⟨a, vs, rfl, h1, h2⟩ := r.toTup
  have o' : OutG C own F H σ g ts (if l.length = n then u l e else none) Q := o
  by_cases hl : l.length = n
  · rw [if_pos hl] at o'
    exact ⟨a, vs, rfl, h1, by rw [← h2.length]; exact hl, own, F, e, g, l, S, h2, o'⟩
  · rw [if_neg hl] at o'; exact o'.elim
def sAsgG (tf : TgF) (f : ME) : MS := fun e g => (f e g).bind fun p => match tf p.1 e with
  | some e' => .ok (.nx e' p.2)
  | none => .stuck
theorem ds_asgG {st : Stmt} {ts : List Nat} {tf : TgF} (h : ∀ {t : TE} {gt : TG}, PE C.X x t → PG C.X tg gt → PS C.X st (tAsg t gt)) (ha : DE C x fa) (hg : DG C tg ts tf) : DS C st (sAsgG tf fa) := ps_imp (h ha hg) fun D σ H ⟨own, F, e, g, S, o⟩ => ⟨own, F, e, g, S, OutS.bindE o fun d g1 H1 v x1 S1 r1 o1 => ⟨own, F, e, g1, d, S1, r1, by
  cases ht : tf d e with
  | none => simp only [ht] at o1; exact o1.elim
  | some e' => simp only [ht] at o1; exact fun σ' S' _ => o1 _ _ _ S'⟩⟩
def forL (tf : TgF) (fb : MS) : List D → MS
  | [] => fun e g => .ok (.nx e g)
  | d :: ds => fun e g => match tf d e with
    | none => .stuck
    | some e' => (fb e' g).bind fun o => match o with
      | .nx e2 g2 => forL tf fb ds e2 g2
      | .ct e2 g2 => forL tf fb ds e2 g2
      | .bk e2 g2 => .ok (.nx e2 g2)
      | .rt d' g2 => .ok (.rt d' g2)
def sFor (fi : MA) (tf : TgF) (fb : MS) : MS := fun e g => (fi e g).bind fun p => forL tf fb p.1 e p.2
noncomputable def frame (C : Ctx) (own : Own) (H : Hp) : Hp := fun a => open Classical in if (∀ j, own j ≠ some a) ∧ ¬ C.io a then H a else none
theorem frame_some {own : Own} {H : Hp} {a : Addr} {o : HO} : frame C own H a = some o ↔ H a = some o ∧ (∀ j, own j ≠ some a) ∧ ¬ C.io a := by
  unfold frame
  split
  · rename_i h
    constructor
    · exact fun e => ⟨e, h⟩
    · exact fun e => e.1
  · rename_i h
    constructor
    · intro e; cases e
    · exact fun e => (h e.2).elim
theorem SR.framed {own : Own} {F H : Hp} {σ : L2.St} {e : En} {g : Rng} (S : SR C own F H σ e g) : SR C own (frame C own H) H σ e g :=
  { S with fr := fun a o h => frame_some.mp h }
theorem SR.frames {own : Own} {F F' H : Hp} {σ : L2.St} {e : En} {g : Rng} (S : SR C own F' H σ e g) (h : ∀ a o, F a = some o → F' a = some o) : SR C own F H σ e g :=
  { S with fr := fun a o q => S.fr a o (h a o q) }
theorem OutS.bindI {own : Own} {F H : Hp} {σ : L2.St} {e : En} {r : Res (List D × Rng)} {k : List D × Rng → Res Out} {D' : Ends} {R : It → Hp → Prop} (h : OutS C F (r.bind k) D')
    (hq : ∀ ds g1 H1 J, ExtI C H H1 → SR C own F H1 σ e g1 → WalkD C own H1 J ds → OutS C F (k (ds, g1)) D' → R J H1) : OutI C own F σ e H r R := by
  cases r with
  | ok a =>
    obtain ⟨d, g1⟩ := a
    exact fun H1 J x S w => hq d g1 H1 J x S w h
  | err y => exact fun H' c dd x ⟨g', S⟩ r => h _ _ _ _ _ _ _ S r
  | stuck => exact h
theorem ds_for {st : Stmt} {iter : Expr} {body : List Stmt} {fi : MA} {ts : List Nat} {tf : TgF} {fb' : MS} (h : ∀ {wi : TI} {gt : TG} {tb : TS}, PI C.X tg iter wi → PG C.X tg gt → PSs C.X body tb → PS C.X st (tFor wi gt tb)) (hi : DI C tg iter fi) (hg : DG C tg ts tf) (hb : DSs C body fb') : DS C st (sFor fi tf fb') :=
  ps_imp (h hi hg hb) fun D' σ H ⟨own, F, e, g, S, o⟩ => ⟨own, F, e, g, S, OutS.bindI o fun ds g1 H1 J x1 S1 w o1 => by
    obtain ⟨GG, Y, wk, hG, hY⟩ := w
    have hF : ∀ a o, F a = some o → frame C own H1 a = some o := fun a o h => frame_some.mpr (S1.fr a o h)
    have kn : ∀ {own' : Own} {H' : Hp} {σ' : L2.St} {e' : En} {g' : Rng}, SR C own' (frame C own H1) H' σ' e' g' → KeepN C own H1 H' := fun S' a o h1 h2 h3 => (S'.fr a o (frame_some.mpr ⟨h1, h2, h3⟩)).1
    refine for_it wk (fun i σ' H' => ∃ own' e' g', SR C own' (frame C own H1) H' σ' e' g' ∧ OutS C F (forL tf fb' (ds.drop i) e' g') D') ⟨own, e, g1, S1.framed, by simpa using o1⟩ (fun i σ' H' _ ⟨own', e', g', S', _⟩ => hG H' (kn S')) ?_ ?_
    · rintro i y σ' H' H'' hi ⟨own', e', g', S', o'⟩ hy
      obtain ⟨same, d, hd, rd⟩ := hY i H' y H'' hi (kn S') hy
      rw [List.drop_eq_getElem_cons hi] at o'
      have ed : ds[i] = d := by rw [List.getElem?_eq_getElem hi] at hd; exact Option.some.inj hd
      rw [ed] at o'
      have S2 := S'.same same
      have rd' : Rep C.g H'' (C.Al own') d y := rd.mono (.same fun _ _ z => z) fun a q _ => by
        obtain ⟨q1, ob, q2⟩ := q
        exact ⟨q1.1, (S2.fr a ob (frame_some.mpr ⟨q2, q1.2⟩)).2⟩
      refine ⟨own', frame C own H1, e', g', d, S2, rd', ?_⟩
      · unfold forL at o'
        cases ht : tf d e' with
        | none => rw [ht] at o'; exact o'.elim
        | some e2 =>
          rw [ht] at o'
          intro σ2 S3 _
          refine ⟨_, frame C own H1, e2, g', S3, ?_⟩
          have o2 : OutS C F ((fb' e2 g').bind _) D' := o'
          cases hb' : fb' e2 g' with
          | ok u =>
            rw [hb'] at o2
            cases u with
            | nx e3 g3 => exact fun own3 σ3 H3 S4 => ⟨own3, e3, g3, S4, o2⟩
            | ct e3 g3 => exact fun own3 σ3 H3 S4 => ⟨own3, e3, g3, S4, o2⟩
            | bk e3 g3 => exact fun own3 σ3 H3 S4 => o2 own3 σ3 H3 (S4.frames hF)
            | rt d3 g3 => exact fun own3 σ3 en H3 v S4 r => o2 own3 σ3 en H3 v (S4.frames hF) r
          | err y => rw [hb'] at o2; exact fun own3 σ3 en gg H3 c dd S4 r => o2 own3 σ3 en gg H3 c dd (S4.frames hF) r
          | stuck => rw [hb'] at o2; exact o2.elim
    · rintro σ' H' ⟨own', e', g', S', o'⟩
      rw [List.drop_length] at o'
      exact o' own' σ' H' (S'.frames hF)⟩
def whileL (ft : MT) (fb : MS) : Nat → MS
  | 0 => fun _ _ => .stuck
  | n + 1 => fun e g => (ft e g).bind fun p => if p.1 = true then (fb e p.2).bind fun o => match o with
      | .nx e2 g2 => whileL ft fb n e2 g2
      | .ct e2 g2 => whileL ft fb n e2 g2
      | .bk e2 g2 => .ok (.nx e2 g2)
      | .rt d' g2 => .ok (.rt d' g2)
    else .ok (.nx e p.2)
def sWhile (fu : En → Nat) (ft : MT) (fb : MS) : MS := fun e g => whileL ft fb (fu e) e g
theorem ds_while {st : Stmt} {c : Expr} {body : List Stmt} {ft : MT} {fb' : MS} (fu : En → Nat) (h : ∀ {tc : TT} {tb : TS}, PT C.X c tc → PSs C.X body tb → PS C.X st (tWhile tc tb)) (hc : DT C c ft) (hb : DSs C body fb') : DS C st (sWhile fu ft fb') :=
  ps_imp (h hc hb) fun D' σ H ⟨own, F, e, g, S, o⟩ => by
    refine ⟨fun m σ' H' => ∃ own' e' g', SR C own' F H' σ' e' g' ∧ OutS C F (whileL ft fb' m e' g') D', ⟨fu e, own, e, g, S, o⟩, ?_⟩
    rintro m σ' H' ⟨own', e', g', S', o'⟩
    cases m with
    | zero => exact o'.elim
    | succ m =>
      refine ⟨own', F, e', g', S', OutS.bindT o' fun d g1 H1 x1 S1 o1 => ?_⟩
      cases d with
      | false => exact o1 _ _ _ S1
      | true =>
        refine ⟨fun σ2 H2 => ∃ own2 e2 g2, SR C own2 F H2 σ2 e2 g2 ∧ OutS C F (whileL ft fb' m e2 g2) D', fun σ2 H2 z => ⟨m, Nat.lt_succ_self m, z⟩, own', F, e', g1, S1, ?_⟩
        have o2 : OutS C F ((fb' e' g1).bind _) D' := o1
        cases hb' : fb' e' g1 with
        | ok u =>
          rw [hb'] at o2
          cases u with
          | nx e3 g3 => exact fun own3 σ3 H3 S4 => ⟨own3, e3, g3, S4, o2⟩
          | ct e3 g3 => exact fun own3 σ3 H3 S4 => ⟨own3, e3, g3, S4, o2⟩
          | bk e3 g3 => exact o2
          | rt d3 g3 => exact o2
        | err y => rw [hb'] at o2; exact o2
        | stuck => rw [hb'] at o2; exact o2.elim
end
end DL
set_option Elab.async false
set_option linter.all false
set_option maxRecDepth 100000
namespace DL
open PySem PySem.Spec PySem.W PySem.Calls PyProof.Rows L2
section
variable {prog : Program} {w : World} {A : Around} {E : Value → Shared → Prop} {s : Shared}
end
section
variable {X : Cx} {pos : Pos}
end
section
variable {C : Ctx} {tg : Expr} {pos : Pos}
end
end DL
set_option Elab.async false
set_option linter.all false
set_option maxRecDepth 100000
namespace DL
open PySem PySem.Spec PySem.W PySem.Calls PyProof.Rows L2
section
variable {prog : Program} {w : World} {A : Around} {R : Result → Shared → Prop} {it : Addr} {fp wr : List Addr} {G : Array GenState → Array GenState → Prop} {n : Nat} {P : Nat → Value → Prop} {St : Nat → Shared → Prop}
end
section
variable {prog : Program} {w : World} {A : Around} {E : Value → Shared → Prop} {s : Shared}
end
section
variable {X : Cx}
end
section
variable {C : Ctx} {a : Expr} {fa : ME} {p p2 q pos : Pos}
end
end DL
set_option Elab.async false
set_option linter.all false
set_option maxRecDepth 100000
namespace DL
open PySem L2
theorem boundL : ∀ vs : List Nat, ∃ n, ∀ v ∈ vs, v < n
  | [] => ⟨0, fun _ h => nomatch h⟩
  | v :: vs => by
    obtain ⟨n, hn⟩ := boundL vs
    exact ⟨max n (v + 1), fun w hw => by
      rcases List.mem_cons.mp hw with e | e
      · omega
      · have := hn w e
        omega⟩
def wipeE (e : En) : List Nat → En
  | [] => e
  | v :: vs => (wipeE e vs).set v .un
theorem wipeE_length (e : En) : ∀ vs : List Nat, (wipeE e vs).length = e.length
  | [] => rfl
  | v :: vs => by unfold wipeE; rw [List.length_set, wipeE_length e vs]
theorem wipeE_get (e : En) (i : Nat) : ∀ {vs : List Nat}, (wipeE e vs)[i]? = if i ∈ vs then (e[i]?).map fun _ => .un else e[i]?
  | [] => by simp [wipeE]
  | v :: vs => by
    unfold wipeE
    have ih := wipeE_get e i (vs := vs)
    by_cases hv : v = i
    · subst hv
      rw [List.getElem?_set]
      by_cases hl : v < (wipeE e vs).length
      · rw [if_pos rfl, if_pos hl]
        rw [wipeE_length] at hl
        simp [hl]
      · rw [if_pos rfl, if_neg hl]
        rw [wipeE_length] at hl
        simp [List.getElem?_eq_none (Nat.le_of_not_lt hl)]
    · rw [List.getElem?_set_ne hv, ih]
      have : (i ∈ v :: vs) ↔ i ∈ vs := by simp [Ne.symm hv]
      simp [this]
theorem wipe_agree {σ σ' : L2.St} {vs : List Nat} (hl : σ'.length = σ.length) (h : ∀ k, k ∉ vs → σ'[k]? = σ[k]?) : wipe σ' vs = wipe σ vs := by
  apply List.ext_getElem?
  intro i
  have key : ∀ (τ : L2.St) (us : List Nat), (wipe τ us)[i]? = if i ∈ us then (τ[i]?).map (fun _ => none) else τ[i]? := by
    intro τ us
    induction us with
    | nil => simp [wipe]
    | cons v us ih =>
      unfold wipe
      by_cases hv : v = i
      · subst hv
        rw [List.getElem?_set]
        by_cases hl : v < (wipe τ us).length
        · rw [if_pos rfl, if_pos hl]
          rw [wipe_length] at hl
          simp [hl]
        · rw [if_pos rfl, if_neg hl]
          rw [wipe_length] at hl
          simp [List.getElem?_eq_none (Nat.le_of_not_lt hl)]
      · rw [List.getElem?_set_ne hv, ih]
        have : (i ∈ v :: us) ↔ i ∈ us := by simp [Ne.symm hv]
        simp [this]
  rw [key, key]
  by_cases hi : i ∈ vs
  · rw [if_pos hi, if_pos hi]
    by_cases hl' : i < σ.length
    · rw [List.getElem?_eq_getElem hl', List.getElem?_eq_getElem (by omega)]; rfl
    · rw [List.getElem?_eq_none (by omega), List.getElem?_eq_none (by omega)]
  · rw [if_neg hi, if_neg hi, h i hi]
theorem wipe_get' (σ : L2.St) {i : Nat} {vs : List Nat} (h : i ∉ vs) : (wipe σ vs)[i]? = σ[i]? := wipe_out h
section
variable {C : Ctx} {x a b tg : Expr} {fa fb : ME} {pos : Pos}
theorem SR.wipe {own : Own} {F H : Hp} {σ : L2.St} {e : En} {g : Rng} {vs : List Nat} (S : SR C own F H σ e g) (hv : ∀ v ∈ vs, own v = none) : SR C own F H (L2.wipe σ vs) (wipeE e vs) g where
  len := by rw [wipe_length, wipeE_length]; exact S.len
  sl := fun i s hs => by
    rw [wipeE_get] at hs
    by_cases hi : i ∈ vs
    · rw [if_pos hi] at hs
      cases he : e[i]? with
      | none => rw [he] at hs; cases hs
      | some s' => rw [he] at hs; cases hs; trivial
    · rw [if_neg hi] at hs
      have := S.sl i s hs
      rw [wipe_get' σ hi]
      exact this
  on := S.on
  ph := fun i p h hl => by
    have hn : i ∉ vs := fun z => by rw [hv i z] at h; cases h
    rw [wipeE_length] at hl
    rw [wipeE_get, if_neg hn]
    exact S.ph i p h hl
  inj := S.inj
  fin := S.fin
  h0 := S.h0
  fr := S.fr
  io := S.io
  tb := S.tb
  ih := S.ih
  rg := S.rg
  po := S.po
theorem SR.phantom {own : Own} {F H : Hp} {σ : L2.St} {e : En} {g : Rng} {n : Nat} {p : Addr} (S : SR C own F H σ e g) (hn : e.length ≤ n) (ho : own n = none) (np : H p = none) : SR C (fun j => if j = n then some p else own j) F (L2.upd H p (.lst [])) σ e g := by
  have s : Same H (L2.upd H p (.lst [])) := fun a o z => by rw [upd_ne (ne_of_none z np)]; exact z
  have S1 := S.same s
  have fp : C.Al own p := S.fresh np
  have up : ∀ {a : Addr}, C.Al own a → (∃ o, H a = some o) → C.Al (fun j => if j = n then some p else own j) a := fun {a} q ⟨o, z⟩ => ⟨q.1, fun j hj => by
    by_cases h : j = n
    · simp only [h, if_true] at hj
      have : p = a := Option.some.inj hj
      rw [← this, np] at z; cases z
    · simp only [h, if_false] at hj
      exact q.2.1 j hj, q.2.2⟩
  refine ⟨S1.len, fun j s' hs => ?_, fun j q h => ?_, fun j q h hl => ?_, fun j k q h h' => ?_, ?_, S1.h0, fun a o h => ?_, S1.io, S1.tb, S1.ih, S1.rg, S1.po⟩
  · have z := S.sl j s' hs
    cases s' with
    | un => trivial
    | ex y => exact ExR.mono z (.same s) (fun a fs q => s _ _ q) fun a q z => up q z
    | sh d =>
      obtain ⟨w, e1, e3⟩ := z
      exact ⟨w, e1, e3.mono (.same s) fun a q z => up q z⟩
    | ow l' =>
      obtain ⟨q, ws, e1, e3, e4, e5⟩ := z
      have : j ≠ n := fun z => by rw [z, ho] at e1; cases e1
      exact ⟨q, ws, by simp only [this, if_false]; exact e1, e3, s _ _ e4, e5.mono (.same s) fun a q z => up q z⟩
    | rng => exact z
    | me => exact z
    | pol => exact z
  · by_cases hj : j = n
    · simp only [hj, if_true] at h
      cases h
      refine ⟨⟨[], upd_same⟩, ?_, fp.2.2⟩
      cases hz : C.H0 p with
      | none => rfl
      | some o =>
        have := S.h0 p o hz fp.2.2
        rw [np] at this; cases this
    · simp only [hj, if_false] at h
      exact S1.on j q h
  · have : j ≠ n := by omega
    simp only [this, if_false] at h
    exact S.ph j q h hl
  · by_cases hj : j = n
    · by_cases hk : k = n
      · rw [hj, hk]
      · simp only [hj, if_true] at h
        simp only [hk, if_false] at h'
        cases h
        exact (fp.2.1 k h').elim
    · by_cases hk : k = n
      · simp only [hj, if_false] at h
        simp only [hk, if_true] at h'
        cases h'
        exact (fp.2.1 j h).elim
      · simp only [hj, if_false] at h
        simp only [hk, if_false] at h'
        exact S.inj j k q h h'
  · obtain ⟨m, hm⟩ := S.fin
    exact ⟨max m (n + 1), fun j hj => by
      have : j ≠ n := by omega
      simp only [this, if_false]
      exact hm j (by omega)⟩
  · obtain ⟨h1, h2, h3⟩ := S1.fr a o h
    refine ⟨h1, fun j hj => ?_, h3⟩
    by_cases hji : j = n
    · simp only [hji, if_true] at hj
      have := (S.fr a o h).1
      rw [← Option.some.inj hj, np] at this; cases this
    · simp only [hji, if_false] at hj
      exact h2 j hj
def Ctx.blk (C : Ctx) (s : Shared) (H : Hp) (scope : Scope) (cenv : PySem.Env) (fp : List Addr) : Ctx := { C with X := C.X.blk s H scope cenv fp, W := fun _ _ _ _ => False }
theorem SR.inB {own : Own} {F H : Hp} {σ : L2.St} {e : En} {g : Rng} (S : SR C own F H σ e g) (s : Shared) (Hb : Hp) (scope : Scope) (cenv : PySem.Env) (fp : List Addr) : SR (C.blk s Hb scope cenv fp) own F H σ e g :=
  ⟨S.len, S.sl, S.on, S.ph, S.inj, S.fin, S.h0, S.fr, S.io, S.tb, S.ih, S.rg, S.po⟩
def Ctx.nox (C : Ctx) : Ctx := { C with W := fun _ _ _ _ => False }
theorem SR.toN {own : Own} {F H : Hp} {σ : L2.St} {e : En} {g : Rng} (S : SR C own F H σ e g) : SR C.nox own F H σ e g :=
  ⟨S.len, S.sl, S.on, S.ph, S.inj, S.fin, S.h0, S.fr, S.io, S.tb, S.ih, S.rg, S.po⟩
theorem SR.ofN {own : Own} {F H : Hp} {σ : L2.St} {e : En} {g : Rng} (S : SR C.nox own F H σ e g) : SR C own F H σ e g :=
  ⟨S.len, S.sl, S.on, S.ph, S.inj, S.fin, S.h0, S.fr, S.io, S.tb, S.ih, S.rg, S.po⟩
theorem SR.outB {own : Own} {F H : Hp} {σ : L2.St} {e : En} {g : Rng} {s : Shared} {Hb : Hp} {scope : Scope} {cenv : PySem.Env} {fp : List Addr} (S : SR (C.blk s Hb scope cenv fp) own F H σ e g) : SR C own F H σ e g :=
  ⟨S.len, S.sl, S.on, S.ph, S.inj, S.fin, S.h0, S.fr, S.io, S.tb, S.ih, S.rg, S.po⟩
def mTrue : MT := fun _ g => .ok (true, g)
def DTs (C : Ctx) (ifs : List Expr) (f : MT) : Prop := PTs C.X ifs (tDT C f)
theorem dts_nil : DTs C [] mTrue := ⟨fun pins s σ H Q I ⟨own, F, e, g, S, o⟩ => pts_nil.run pins s σ H Q I (o H (.refl H) S)⟩
theorem dts_one {c : Expr} {f : MT} (h : DT C c f) : DTs C [c] f := pts_one h
def lcL (tf : TgF) (ft : MT) (fe : ME) : List D → En → Rng → Res (List D × Rng)
  | [], _, g => .ok ([], g)
  | d :: ds, e, g => match tf d e with
    | none => .stuck
    | some e' => (ft e' g).bind fun p => if p.1 = true then (fe e' p.2).bind fun q => (lcL tf ft fe ds e q.2).bind fun r => .ok (q.1 :: r.1, r.2)
      else lcL tf ft fe ds e p.2
def Slot.isOw : Slot → Bool
  | .ow _ => true
  | _ => false
def noErr {α : Type} : Res α → Res α
  | .ok a => .ok a
  | _ => .stuck
def aLc (vs : List Nat) (fi : MA) (tf : TgF) (ft : MT) (fe : ME) : MA := fun e g => (fi e g).bind fun p =>
  if (vs.all fun v => match e[v]? with | some s => !s.isOw | none => false) = true ∧ p.1.length ≤ 1000 then noErr (lcL tf ft fe p.1 (wipeE e vs) p.2) else .stuck
theorem OutF.bindI {own : Own} {F H : Hp} {σ : L2.St} {e : En} {r : Res (List D × Rng)} {k : List D × Rng → Res (List D × Rng)} {Q : VK} {R : It → Hp → Prop} (h : OutF C own F σ e H (r.bind k) Q)
    (hq : ∀ ds g1 H1 J, ExtI C H H1 → SR C own F H1 σ e g1 → WalkD C own H1 J ds → OutF C own F σ e H1 (k (ds, g1)) Q → R J H1) : OutI C own F σ e H r R := by
  cases r with
  | ok a =>
    obtain ⟨d, g1⟩ := a
    intro H1 J x S w
    refine hq d g1 H1 J x S w ?_
    have h' : OutF C own F σ e H (k (d, g1)) Q := h
    have fb : ∀ {p}, H1 p = none → ¬ C.io p → H p = none := fun {p} n ni => by
      cases q : H p with
      | none => rfl
      | some o => rw [x p o q ni] at n; cases n
    cases hk : k (d, g1) with
    | ok a =>
      rw [hk] at h'
      exact fun H2 p vs x2 n hp S2 rr => h' H2 p vs (x.trans x2) (fb n (fun hi => by obtain ⟨xs, z, _⟩ := S.io p hi; rw [n] at z; cases z)) hp S2 rr
    | err y =>
      rw [hk] at h'
      exact fun H2 c dd x2 => h' H2 c dd (x.trans x2)
    | stuck => rw [hk] at h'; exact h'
  | err y => exact h
  | stuck => exact h
theorem lc_readsP {elt : Expr} {ifs : List Expr} {scope : Scope} {ts vs : List Nat} {fi : MA} {tf : TgF} {ft : MT} {fe : ME} {R : Prop} {wi : TI} (P : Own → L2.St → En → Hp → Prop)
    (h : ∀ {gt : TG} {tt : TT} {te : TE}, (∀ s H Ca cl fp, PG (C.X.blk s H scope (compEnvC scope cl Ca C.X.env) fp) tg gt) → (∀ s H Ca cl fp, PTs (C.X.blk s H scope (compEnvC scope cl Ca C.X.env) fp) ifs tt) →
      (∀ s H Ca cl fp, PE (C.X.blk s H scope (compEnvC scope cl Ca C.X.env) fp) elt te) → (∀ σ H Q own F e g, SR C own F H σ e g → P own σ e H → OutF C own F σ e H (aLc vs fi tf ft fe e g) Q → tLc wi gt tt te vs σ H Q) → R)
    (hwi : ∀ σ H (J : It → Hp → Prop) own F e g, SR C own F H σ e g → P own σ e H → OutI C own F σ e H (fi e g) J → wi σ H J) (hsub : ∀ t ∈ ts, t ∈ vs)
    (hg : ∀ s H Ca cl fp, DG (C.blk s H scope (compEnvC scope cl Ca C.X.env) fp) tg ts tf)
    (ht : ∀ s H Ca cl fp, DTs (C.blk s H scope (compEnvC scope cl Ca C.X.env) fp) ifs ft)
    (he : ∀ s H Ca cl fp, DE (C.blk s H scope (compEnvC scope cl Ca C.X.env) fp) elt fe) : R := by
  have gG : ∀ s H Ca cl fp, PG (C.X.blk s H scope (compEnvC scope cl Ca C.X.env) fp) tg (tDG C.nox ts tf) := fun s H Ca cl fp => by
    refine pg_imp (hg s H Ca cl fp) fun v σ Hh Q ⟨own, F, e, g, d, S, r, o⟩ => ⟨own, F, e, g, d, (S.ofN).inB _ _ _ _ _, r, ?_⟩
    unfold OutG at o ⊢
    cases q : tf d e with
    | none => rw [q] at o; exact o.elim
    | some e' => rw [q] at o; exact fun σ' S' k => o σ' (S'.outB).toN k
  have gT : ∀ s H Ca cl fp, PTs (C.X.blk s H scope (compEnvC scope cl Ca C.X.env) fp) ifs (tDT C.nox ft) := fun s H Ca cl fp => by
    refine ⟨fun pins sh σ Hh Q I ⟨own, F, e, g, S, o⟩ => (ht s H Ca cl fp).run pins sh σ Hh Q I ⟨own, F, e, g, (S.ofN).inB _ _ _ _ _, ?_⟩⟩
    unfold OutT at o ⊢
    cases q : ft e g with
    | ok p => rw [q] at o; exact fun H' x S' => o H' x (S'.outB).toN
    | err y => rw [q] at o; exact fun H' c dd x ⟨g', S'⟩ r => o H' c dd x ⟨g', (S'.outB).toN⟩ r
    | stuck => rw [q] at o; exact o
  have gE : ∀ s H Ca cl fp, PE (C.X.blk s H scope (compEnvC scope cl Ca C.X.env) fp) elt (tD C.nox fe) := fun s H Ca cl fp => by
    refine pe_imp (he s H Ca cl fp) fun σ Hh Q ⟨own, F, e, g, S, o⟩ => ⟨own, F, e, g, (S.ofN).inB _ _ _ _ _, ?_⟩
    unfold OutE at o ⊢
    cases q : fe e g with
    | ok p => rw [q] at o; exact fun H' v x S' => o H' v x (S'.outB).toN
    | err y => rw [q] at o; exact fun H' c dd x ⟨g', S'⟩ r => o H' c dd x ⟨g', (S'.outB).toN⟩ r
    | stuck => rw [q] at o; exact o
  refine h gG gT gE fun σ H Q own F e g S hP o => hwi σ H _ own F e g S hP (OutF.bindI o fun ds g1 H1 J x1 S1 w o1 => ?_)
  by_cases hc : (vs.all fun v => match e[v]? with | some s => !s.isOw | none => false) = true ∧ ds.length ≤ 1000
  rotate_left
  · simp only [hc, if_false] at o1; exact o1.elim
  simp only [hc, and_self, if_true] at o1
  have hov : ∀ v ∈ vs, own v = none := fun v hv => by
    have := List.all_eq_true.mp hc.1 v hv
    cases ho : own v with
    | none => rfl
    | some p =>
      cases he : e[v]? with
      | none => rw [he] at this; cases this
      | some s =>
        obtain ⟨l, hl⟩ := S1.ph v p ho (List.getElem?_eq_some_iff.mp he).1
        rw [hl] at he; cases he
        rw [hl] at this; cases this
  cases hr : lcL tf ft fe ds (wipeE e vs) g1 with
  | err y => rw [hr] at o1; exact o1.elim
  | stuck => rw [hr] at o1; exact o1.elim
  | ok res =>
  obtain ⟨rs, gf⟩ := res
  rw [hr] at o1
  intro Dl hDl
  obtain ⟨m0, hm0⟩ := S1.fin
  obtain ⟨n, hn1, hn2, hn3⟩ : ∃ n, e.length ≤ n ∧ own n = none ∧ n ∉ vs := by
    obtain ⟨m1, hm1⟩ := boundL vs
    exact ⟨max m0 (max e.length m1), by omega, hm0 _ (by omega), fun z => by
      have := hm1 _ z
      omega⟩
  obtain ⟨GG, Y, wk, hG, hY⟩ := w
  have S1w := S1.wipe hov
  have P0 := S1w.phantom (by rw [wipeE_length]; exact hn1) hn2 hDl
  have hts : offB ts (fun j => if j = n then some Dl else own j) = fun j => if j = n then some Dl else own j := by
    funext j
    unfold offB
    split
    · rename_i hj
      have hjv := hsub j hj
      have : j ≠ n := fun z => hn3 (z ▸ hjv)
      simp only [this, if_false]
      exact (hov j hjv).symm
    · rfl
  have AlD : ∀ {a : Addr}, C.Al (fun j => if j = n then some Dl else own j) a → C.Al own a ∧ a ≠ Dl := fun {a} q => ⟨⟨q.1, fun j hj => by
      have := q.2.1 j
      by_cases h : j = n
      · subst h; rw [hn2] at hj; cases hj
      · simp only [h, if_false] at this; exact this hj, q.2.2⟩, fun z => q.2.1 n (by simp [z])⟩
  have AlU : ∀ {a : Addr}, C.Al own a → a ≠ Dl → C.Al (fun j => if j = n then some Dl else own j) a := fun {a} q ne => ⟨q.1, fun j hj => by
      by_cases h : j = n
      · simp only [h, if_true] at hj; exact ne (Option.some.inj hj).symm
      · simp only [h, if_false] at hj; exact q.2.1 j hj, q.2.2⟩
  refine lc_it wk (fun i H' => ∃ acc accD gi rs', H' Dl = some (.lst acc) ∧ SR C (fun j => if j = n then some Dl else own j) F H' (L2.wipe σ vs) (wipeE e vs) gi ∧ RepL C.g H' (C.Al fun j => if j = n then some Dl else own j) accD acc ∧ accD.length ≤ i ∧ ExtI C H1 H' ∧
    lcL tf ft fe (ds.drop i) (wipeE e vs) gi = .ok (rs', gf) ∧ accD ++ rs' = rs) ⟨[], [], g1, rs, upd_same, P0, .nil, Nat.le_refl _, ?_, by simpa using hr, rfl⟩ ?_ ?_ ?_
  · exact fun a ob z _ => by rw [upd_ne (ne_of_none z hDl)]; exact z
  · rintro i H' _ ⟨acc, accD, gi, rs', h1, h2, h3, h4, h5, h6, h7⟩
    exact hG H' fun a ob z1 z2 z3 => h5 a ob z1 z3
  · rintro i y H' H'' hi ⟨acc, accD, gi, rs', h1, h2, h3, h4, h5, h6, h7⟩ hy
    obtain ⟨same, d, hd, rd⟩ := hY i H' y H'' hi (fun a ob z1 z2 z3 => h5 a ob z1 z3) hy
    rw [List.drop_eq_getElem_cons hi] at h6
    have ed : ds[i] = d := by rw [List.getElem?_eq_getElem hi] at hd; exact Option.some.inj hd
    rw [ed] at h6
    have S2 := h2.same same
    have rd' : Rep C.g H'' (C.Al fun j => if j = n then some Dl else own j) d y := rd.mono (.same fun _ _ z => z) fun a q _ => by
      obtain ⟨q1, ob, q2⟩ := q
      exact AlU q1 (ne_of_none q2 hDl)
    rw [lcL] at h6
    cases htf : tf d (wipeE e vs) with
    | none => rw [htf] at h6; cases h6
    | some e2 =>
    rw [htf] at h6
    refine ⟨_, F, wipeE e vs, gi, d, S2.toN, rd', ?_⟩
    show OutG _ _ _ _ _ _ _ (tf d (wipeE e vs)) _
    rw [htf]
    intro σ2 S3 hk
    rw [hts] at S3
    have hw : L2.wipe σ2 vs = L2.wipe σ vs := wipe_agree (by rw [hk.1, wipe_length]) fun k hkv => by rw [hk.2 k fun z => hkv (hsub k z), wipe_get' σ hkv]
    refine ⟨hw, _, F, e2, gi, S3, ?_⟩
    have h6' : ((ft e2 gi).bind fun p => if p.1 = true then (fe e2 p.2).bind fun q => (lcL tf ft fe (ds.drop (i + 1)) (wipeE e vs) q.2).bind fun r => .ok (q.1 :: r.1, r.2) else lcL tf ft fe (ds.drop (i + 1)) (wipeE e vs) p.2) = .ok (rs', gf) := h6
    cases hft : ft e2 gi with
    | err y => rw [hft] at h6'; cases h6'
    | stuck => rw [hft] at h6'; cases h6'
    | ok p =>
    obtain ⟨bb, g2⟩ := p
    rw [hft] at h6'
    intro H3 x3 S4
    have x3' : ExtI C H'' H3 := x3
    have xx : ExtI C H1 H3 := (h5.trans (.of same)).trans x3'
    have hDn : ¬ C.io Dl := (S2.on n Dl (by simp)).2.2
    have h13 : H3 Dl = some (.lst acc) := x3' _ _ (same _ _ h1) hDn
    cases bb with
    | false =>
      have h6'' : lcL tf ft fe (ds.drop (i + 1)) (wipeE e vs) g2 = .ok (rs', gf) := h6'
      exact ⟨acc, accD, g2, rs', h13, S2.back x3' S4.ofN, S2.repL x3' (h3.mono (.same same) fun a q _ => q), by omega, xx, h6'', h7⟩
    | true =>
      refine ⟨_, F, e2, g2, S4, ?_⟩
      have h6'' : ((fe e2 g2).bind fun q => (lcL tf ft fe (ds.drop (i + 1)) (wipeE e vs) q.2).bind fun r => .ok (q.1 :: r.1, r.2)) = .ok (rs', gf) := h6'
      cases hfe : fe e2 g2 with
      | err y => rw [hfe] at h6''; cases h6''
      | stuck => rw [hfe] at h6''; cases h6''
      | ok q =>
      obtain ⟨r, g3⟩ := q
      rw [hfe] at h6''
      have h8 : ((lcL tf ft fe (ds.drop (i + 1)) (wipeE e vs) g3).bind fun r' => .ok (r :: r'.1, r'.2)) = .ok (rs', gf) := h6''
      cases hl : lcL tf ft fe (ds.drop (i + 1)) (wipeE e vs) g3 with
      | err y => rw [hl] at h8; cases h8
      | stuck => rw [hl] at h8; cases h8
      | ok q2 =>
      obtain ⟨rs2, gf2⟩ := q2
      rw [hl] at h8
      have e8 : (r :: rs2, gf2) = (rs', gf) := Res.ok.inj h8
      obtain ⟨rfl, rfl⟩ := Prod.mk.inj e8
      intro H4 yv x4 S5 ry
      have x4' : ExtI C H3 H4 := x4
      have x24 : ExtI C H'' H4 := x3'.trans x4'
      have h14 : H4 Dl = some (.lst acc) := x4' _ _ h13 hDn
      have SB : SR C (fun j => if j = n then some Dl else own j) F H4 (L2.wipe σ vs) (wipeE e vs) g3 := S2.back x24 S5.ofN
      have rA : RepL C.g H4 (C.Al fun j => if j = n then some Dl else own j) (accD ++ [r]) (acc ++ [yv]) := (S2.repL x24 (h3.mono (.same same) fun a q _ => q)).append (.cons ry .nil)
      have nl : ¬ n < (wipeE e vs).length := by rw [wipeE_length]; omega
      have SU := SB.upd (i := n) (p := Dl) (l := accD ++ [r]) (if_pos rfl) (fun z => (nl z).elim) rA
      have eset : (wipeE e vs).set n (.ow (accD ++ [r])) = wipeE e vs := List.set_eq_of_length_le (by rw [wipeE_length]; exact hn1)
      rw [eset] at SU
      refine ⟨acc, h14, lt_line (by rw [← h3.length]; omega), acc ++ [yv], accD ++ [r], g3, rs2, upd_same, SU, SB.updRep (i := n) (p := Dl) (if_pos rfl) rA, by rw [List.length_append]; exact Nat.succ_le_succ h4, fun a ob z1 z2 => ?_, hl, by rw [List.append_assoc]; exact h7⟩
      have : a ≠ Dl := ne_of_none z1 hDl
      rw [upd_ne this]
      exact (xx.trans x4') a ob z1 z2
  · rintro H' ⟨acc, accD, gi, rs', h1, h2, h3, h4, h5, h6, h7⟩
    rw [List.drop_length, lcL] at h6
    have e6 : (([] : List D), gi) = (rs', gf) := Res.ok.inj h6
    obtain ⟨rfl, rfl⟩ := Prod.mk.inj e6
    rw [List.append_nil] at h7
    subst h7
    exact o1 H' Dl acc h5 hDl h1 (S1.back h5 h2) (h3.mono (.same fun _ _ z => z) fun a q _ => AlD q)
theorem lc_reads {iter elt : Expr} {ifs : List Expr} {scope : Scope} {ts vs : List Nat} {fi : MA} {tf : TgF} {ft : MT} {fe : ME} {R : Prop}
    (h : ∀ {wi : TI} {gt : TG} {tt : TT} {te : TE}, PI C.X tg iter wi → (∀ s H Ca cl fp, PG (C.X.blk s H scope (compEnvC scope cl Ca C.X.env) fp) tg gt) → (∀ s H Ca cl fp, PTs (C.X.blk s H scope (compEnvC scope cl Ca C.X.env) fp) ifs tt) →
      (∀ s H Ca cl fp, PE (C.X.blk s H scope (compEnvC scope cl Ca C.X.env) fp) elt te) → (∀ σ H Q, tDF C (aLc vs fi tf ft fe) σ H Q → tLc wi gt tt te vs σ H Q) → R)
    (hi : DI C tg iter fi) (hsub : ∀ t ∈ ts, t ∈ vs)
    (hg : ∀ s H Ca cl fp, DG (C.blk s H scope (compEnvC scope cl Ca C.X.env) fp) tg ts tf)
    (ht : ∀ s H Ca cl fp, DTs (C.blk s H scope (compEnvC scope cl Ca C.X.env) fp) ifs ft)
    (he : ∀ s H Ca cl fp, DE (C.blk s H scope (compEnvC scope cl Ca C.X.env) fp) elt fe) : R :=
  lc_readsP (wi := tDI C fi) (fun _ _ _ _ => True) (fun gG gT gE r => h hi gG gT gE fun σ H Q ⟨own, F, e, g, S, o⟩ => r σ H Q own F e g S trivial o) (fun σ H J own F e g S _ o => ⟨own, F, e, g, S, o⟩) hsub hg ht he
end
end DL
set_option Elab.async false
set_option linter.all false
set_option maxRecDepth 100000
namespace DL
open PySem PySem.Spec PyProof.Rows L2
def g0 : Rng := ⟨[], 0, 0, 0, [], []⟩
def env0 (n : Nat) (ds : List D) : En := ds.map .sh ++ List.replicate (n - ds.length) .un
def resD : Res Out → Res D
  | .ok (.rt d _) => .ok d
  | .ok (.nx _ _) => .ok .non
  | .err x => .err x
  | _ => .stuck
def runD (n k : Nat) (b : MS) (ds : List D) : Res D := if ds.length = k then resD (b (env0 n ds) g0) else .stuck
def envG (n : Nat) (ds : List D) : En := .rng :: (ds.map .sh ++ List.replicate (n - (ds.length + 1)) .un)
def resG : Res Out → Res (D × Rng)
  | .ok (.rt d g) => .ok (d, g)
  | .ok (.nx _ g) => .ok (.non, g)
  | _ => .stuck
def runG (n k : Nat) (b : MS) (ds : List D) (g : Rng) : Res (D × Rng) := if ds.length + 1 = k then resG (b (envG n ds) g) else .stuck
section
variable {P : Program} {w : World} {K : PySem.W.Frag} {mg : Str → Option Value} {base : Heap} {cm : Str → Option Addr} {tb : List (Addr × Str)}
abbrev ctxD (P : Program) (w : World) (K : PySem.W.Frag) (mg : Str → Option Value) (base : Heap) (cm : Str → Option Addr) (tb : List (Addr × Str)) (N : List Str) (qual : Str) (scope : Scope) (f : Addr) (cdv : Value) (A : Around) (outer : List PySem.Env) (s : Shared) (H : Hp) (E : XK) (A0 : Addr → Prop) (rg : Option (Addr × Addr)) : Ctx :=
  { X := cxOf (L2N.CX P w) P w K mg base N qual scope f cdv A outer s H E, cm := cm, tb := tb, W := fun c dd _ H' => E c dd H', H0 := H, A := A0, rg := rg }
theorem start_get {N : List Str} {vs : List V} {i : Nat} {v : V} (h : vs[i]? = some v) : (L2.start N vs)[i]? = some (some v) := by
  unfold L2.start
  have hi := (List.getElem?_eq_some_iff.mp h).1
  rw [List.getElem?_append_left (by simpa using hi), List.getElem?_map, h]; rfl
theorem env0_sl {C : Ctx} {own : Own} {N : List Str} {vs : List V} {ds : List D} (r : RepL C.g C.H0 (C.Al own) ds vs) {i : Nat} {s : Slot} (hs : (env0 N.length ds)[i]? = some s) : SlR C own C.H0 ((L2.start N vs)[i]?) i s := by
  unfold env0 at hs
  by_cases hi : i < ds.length
  · rw [List.getElem?_append_left (by simpa using hi), List.getElem?_map, List.getElem?_eq_getElem hi] at hs
    cases hs
    obtain ⟨v, h1, h2⟩ := r.get (List.getElem?_eq_getElem hi)
    exact ⟨v, start_get h1, h2⟩
  · rw [List.getElem?_append_right (by simp; omega)] at hs
    rw [List.getElem?_replicate] at hs
    split at hs
    · cases hs; trivial
    · cases hs
theorem sr_start {C : Ctx} {N : List Str} {vs : List V} {ds : List D} (hl : vs.length ≤ N.length) (r : RepL C.g C.H0 C.A ds vs) (t : Tabs C.tb C.H0) (hA : ∀ a, C.A a → ∀ p ∈ C.tb, p.1 ≠ a) (hr : C.rg = none) (hpo : C.po = none) : SR C (fun _ => none) (fun _ => none) C.H0 (L2.start N vs) (env0 N.length ds) g0 := by
  have nio : ∀ a, C.io a → ∃ p ∈ C.tb, p.1 = a := fun a h => Ctx.io_no hr hpo h
  have r' : RepL C.g C.H0 (C.Al fun _ => none) ds vs := r.mono (.same fun _ _ z => z) fun a q _ => ⟨.inl q, fun j h => (by cases h), fun h => by
    obtain ⟨p, hp, z⟩ := nio a h
    exact hA a q p hp z⟩
  have at0 : ∀ a, C.io a → ∃ o, C.H0 a = some o ∧ MutO o := fun a h => by
    obtain ⟨p, hp, rfl⟩ := nio a h
    exact t.at_ hp
  refine ⟨?_, fun i s hs => env0_sl r' hs, fun i p h => ?_, fun i p h => ?_, fun i j p h => ?_, ⟨0, fun _ _ => rfl⟩, fun a o h _ => h, fun a o h => ?_, at0, t, fun a h => ?_, fun r' c z => ?_, fun r' a b z => ?_⟩
  · unfold L2.start env0; simp [r.length]
  · cases h
  · cases h
  · cases h
  · cases h
  · obtain ⟨o, e, _⟩ := at0 a h
    rw [e]; exact fun z => nomatch z
  · rw [hr] at z; cases z
  · rw [hpo] at z; cases z
theorem pre_le {N ps : List Str} {sc : Scope} (S : FnScope N ps sc) : ps.length ≤ N.length := by
  have h := congrArg List.length S.pre
  rw [List.length_take] at h
  omega
theorem fn_spD {x qual : Str} {st : Stmt} {dvs : List V} {kws : List (Str × V)} {f : Addr} {fd : FuncData} {N ps : List Str} {k : Nat} (F : FunD K x qual (defArgs st) (defBody st) (defScope st) dvs kws f fd) (S : FnScope N ps (defScope st)) (b : MS)
    (body : ∀ (cdv : Value) (A : Around) (outer : List PySem.Env) (s : Shared) (H : Hp) (E : XK) (A0 : Addr → Prop), Room k (A.deeper (envOfC qual (defScope st) s.heap.objs.size f cdv)) → DSs (ctxD P w K mg base cm tb N qual (defScope st) f cdv A outer s H E A0 none) (defBody st) b) :
    FnOk P w K mg base (L2N.CX P w) (k + 1) f fd ps (spD ⟨K, cm, tb⟩ (runD N.length ps.length b)) := by
  have len : ∀ vs H Q E, spD ⟨K, cm, tb⟩ (runD N.length ps.length b) vs H Q E → vs.length = ps.length := fun vs H Q E ⟨A0, ds, r, _, _, o⟩ => by
    unfold runD at o
    split at o
    · rename_i h; rw [← r.length]; exact h
    · exact o.elim
  refine F.ok S len fun cdv A outer s H vs Q E hr h => ?_
  have hlen := len vs H Q E h
  obtain ⟨A0, ds, r, tt, hA, o⟩ := id h
  refine ⟨_, body cdv A outer s H E A0 hr, ?_⟩
  have hd : ds.length = ps.length := by rw [r.length, hlen]
  unfold runD at o
  rw [if_pos hd] at o
  let C : Ctx := ctxD P w K mg base cm tb N qual (defScope st) f cdv A outer s H E A0 none
  have S0 : SR C (fun _ => none) (fun _ => none) H (L2.start N vs) (env0 N.length ds) g0 := sr_start (C := C) (by rw [hlen]; exact pre_le S) r tt hA rfl rfl
  have nio : ∀ a, C.io a → ∃ p ∈ tb, p.1 = a := fun a h => Ctx.io_no rfl rfl h
  have kp : ∀ {own' : Own} {F' H' : Hp} {σ' : L2.St} {e' : En} {g' : Rng}, SR C own' F' H' σ' e' g' → SameT tb H H' := fun S' a ob z n => S'.h0 a ob z fun hi => by
    obtain ⟨p, hp, e⟩ := nio a hi
    exact n p hp e
  refine ⟨fun _ => none, fun _ => none, env0 N.length ds, g0, S0, ?_⟩
  show OutS C _ (b (env0 N.length ds) g0) _
  cases hb : b (env0 N.length ds) g0 with
  | ok u =>
    rw [hb] at o
    cases u with
    | nx e g => exact fun own' σ' H' S' => o H' .non (kp S') S'.tb .non_
    | rt d g => exact fun own' σ' e' H' v S' r' => o H' v (kp S') S'.tb (r'.mono (.same fun _ _ z => z) fun a q _ => q.1)
    | bk e g => exact o.elim
    | ct e g => exact o.elim
  | err y =>
    rw [hb] at o
    exact fun own' σ' e' g' H' c dd S' ⟨Ca, d, ws, h1, h2, h3, h4, h5, h6⟩ => o H' c dd (kp S') S'.tb ⟨Ca, d, ws, h1, h2, h3, h4, h5, h6.mono (.same fun _ _ z => z) fun a q _ => q.1⟩
  | stuck => rw [hb] at o; exact o.elim
theorem fn_spG {x qual : Str} {st : Stmt} {dvs : List V} {kws : List (Str × V)} {f : Addr} {fd : FuncData} {N ps : List Str} {k : Nat} (F : FunD K x qual (defArgs st) (defBody st) (defScope st) dvs kws f fd) (S : FnScope N ps (defScope st)) (b : MS)
    (body : ∀ (cdv : Value) (A : Around) (outer : List PySem.Env) (s : Shared) (H : Hp) (E : XK) (A0 : Addr → Prop) (r c : Addr), Room k (A.deeper (envOfC qual (defScope st) s.heap.objs.size f cdv)) → DSs (ctxD P w K mg base cm tb N qual (defScope st) f cdv A outer s H E A0 (some (r, c))) (defBody st) b) :
    FnOk P w K mg base (L2N.CX P w) (k + 1) f fd ps (spG ⟨K, cm, tb⟩ (runG N.length ps.length b)) := by
  have len : ∀ vs H Q E, spG ⟨K, cm, tb⟩ (runG N.length ps.length b) vs H Q E → vs.length = ps.length := fun vs H Q E ⟨A0, ds, r, c, gg, ws, e, R, rp, hA, _, _, o⟩ => by
    unfold runG at o
    by_cases h : ds.length + 1 = ps.length
    · subst e; rw [List.length_cons, ← rp.length]; exact h
    · rw [if_neg h] at o; exact o.elim
  refine F.ok S len fun cdv A outer s H vs Q E hr h => ?_
  have hlen := len vs H Q E h
  obtain ⟨A0, ds, r, c, gg, ws, rfl, R, rp, hA, tt, hT, o⟩ := id h
  refine ⟨_, body cdv A outer s H E A0 r c hr, ?_⟩
  have hd : ds.length + 1 = ps.length := by rw [← hlen, List.length_cons, rp.length]
  unfold runG at o
  rw [if_pos hd] at o
  let C : Ctx := ctxD P w K mg base cm tb N qual (defScope st) f cdv A outer s H E A0 (some (r, c))
  have io : ∀ a, C.io a → a = r ∨ ∃ p ∈ tb, p.1 = a := fun a h => Ctx.io_rg rfl rfl h
  have ntL : ∀ {a : Addr} {xs : List V}, H a = some (.lst xs) → ∀ p ∈ tb, p.1 ≠ a := fun {a xs} h p hp z => by
    obtain ⟨ps, h1, _⟩ := tt p hp
    rw [z, h] at h1; cases h1
  have at0 : ∀ a, C.io a → ∃ o, H a = some o ∧ MutO o := fun a h => by
    rcases io a h with rfl | ⟨p, hp, rfl⟩
    · exact ⟨_, R.at_, .inl ⟨_, rfl⟩⟩
    · exact tt.at_ hp
  have rp' : RepL C.g C.H0 (C.Al fun _ => none) ds ws := rp.mono (.same fun _ _ z => z) fun a q _ => ⟨.inl q, fun j h => (by cases h), fun hi => by
    rcases io a hi with z | ⟨p, hp, z⟩
    · exact hA (z ▸ q)
    · exact hT a q p hp z⟩
  have hn : ps.length ≤ N.length := pre_le S
  have S0 : SR C (fun _ => none) (fun _ => none) H (L2.start N (.ref r :: ws)) (envG N.length ds) gg := by
    refine ⟨?_, fun i s hs => ?_, fun i p h => ?_, fun i p h => ?_, fun i j p h => ?_, ⟨0, fun _ _ => rfl⟩, fun a o h _ => h, fun a o h => ?_, at0, tt, fun a h => ?_, fun r' c' z => ?_, fun r' a b z => (by cases z)⟩
    · unfold L2.start envG; simp [rp.length]
    · unfold envG at hs
      cases i with
      | zero => cases hs; exact ⟨r, c, rfl, start_get rfl⟩
      | succ i =>
        rw [List.getElem?_cons_succ] at hs
        by_cases hi : i < ds.length
        · rw [List.getElem?_append_left (by simpa using hi), List.getElem?_map, List.getElem?_eq_getElem hi] at hs
          cases hs
          obtain ⟨v, h1, h2⟩ := rp'.get (List.getElem?_eq_getElem hi)
          exact ⟨v, start_get (by rw [List.getElem?_cons_succ]; exact h1), h2⟩
        · rw [List.getElem?_append_right (by simp; omega), List.getElem?_replicate] at hs
          split at hs
          · cases hs; trivial
          · cases hs
    · cases h
    · cases h
    · cases h
    · cases h
    · obtain ⟨o, e, _⟩ := at0 a h
      show H a ≠ none
      rw [e]; exact fun z => nomatch z
    · cases z
      exact ⟨.inl (.inl ⟨c, rfl⟩), fun hi => (io c hi).elim R.ne fun ⟨p, hp, z⟩ => ntL R.ce p hp z, (by show H c ≠ none; rw [R.ce]; exact fun z => nomatch z), R⟩
  refine ⟨fun _ => none, fun _ => none, envG N.length ds, gg, S0, ?_⟩
  show OutS C _ (b (envG N.length ds) gg) _
  have kp : ∀ {own' : Own} {F' H' : Hp} {σ' : L2.St} {e' : En} {g' : Rng}, SR C own' F' H' σ' e' g' → ∀ a o, H a = some o → a ≠ r → (∀ p ∈ tb, p.1 ≠ a) → H' a = some o := fun S' a ob z n n2 => S'.h0 a ob z fun hi => (io a hi).elim n fun ⟨p, hp, z⟩ => n2 p hp z
  cases hb : b (envG N.length ds) gg with
  | ok u =>
    rw [hb] at o
    cases u with
    | nx e g => exact fun own' σ' H' S' => o H' .non (kp S') S'.tb (S'.rg r c rfl).2.2.2 .non_
    | rt d g => exact fun own' σ' e' H' v S' r' => o H' v (kp S') S'.tb (S'.rg r c rfl).2.2.2 (r'.mono (.same fun _ _ z => z) fun a q _ => q.1)
    | bk e g => exact o.elim
    | ct e g => exact o.elim
  | err y => rw [hb] at o; exact o.elim
  | stuck => rw [hb] at o; exact o.elim
end
def rgI (i : Nat) (k : Int) : ME := fun e g => match e[i]? with
  | some .rng => if k = 1 then .ok (.int g.i, g) else if k = 2 then .ok (.int g.b, g) else if k = 3 then .ok (.int g.s, g) else .stuck
  | _ => .stuck
def rgLen (i : Nat) : ME := fun e g => match e[i]? with
  | some .rng => .ok (.int g.cells.length, g)
  | _ => .stuck
def rgCell (i : Nat) : ME := fun e g => match e[i]? with
  | some .rng => match atI g.cells g.i with
    | some z => .ok (.int z, g)
    | none => .stuck
  | _ => .stuck
def rgSet (i : Nat) (k : Int) (f : ME) : MS := fun e g => match e[i]? with
  | some .rng => (f e g).bind fun p => match p.1 with
    | .int v => if k = 1 ∧ 0 ≤ v then .ok (.nx e { p.2 with i := v }) else if k = 2 ∧ 0 ≤ v then .ok (.nx e { p.2 with b := v }) else if k = 3 ∧ 0 ≤ v ∧ v < 2147483563 then .ok (.nx e { p.2 with s := v }) else .stuck
    | _ => .stuck
  | _ => .stuck
section
variable {C : Ctx} {x a b tg : Expr} {fa fb : ME} {pos : Pos} {st : Stmt}
theorem rng_slot {own : Own} {F H : Hp} {σ : L2.St} {e : En} {g : Rng} {i : Nat} {α : Type} {f : Res α} {Z : Res α → Prop} (S : SR C own F H σ e g) (z : ¬ Z .stuck) (o : Z (match e[i]? with | some .rng => f | _ => .stuck)) : e[i]? = some .rng ∧ Z f := by
  cases hs : e[i]? with
  | none => rw [hs] at o; exact (z o).elim
  | some s =>
    rw [hs] at o
    cases s with
    | rng => exact ⟨rfl, o⟩
    | un => exact (z o).elim
    | ex y => exact (z o).elim
    | sh d => exact (z o).elim
    | ow l => exact (z o).elim
    | me => exact (z o).elim
    | pol => exact (z o).elim
theorem atI_val {xs : List V} {i : Int} {j : Nat} {v : V} (e : i = (j : Int)) (h : xs[j]? = some v) : atI xs i = some v := by rw [e]; exact atI_nat h
theorem de_rgI {i : Nat} {k : Int} {j : Nat} {p1 p2 : Pos} {y : Str} (hv : PE C.X (.Name y p1) (tVar i)) : DE C (.Subscript (.Name y p1) (.Constant (.int k) j p2) pos) (rgI i k) :=
  pe_imp (pe_ix ix_list hv pe_int (fun _ _ => rfl)) fun σ H Q ⟨own, F, e, g, S, o⟩ => by
    unfold rgI at o
    obtain ⟨hs, o⟩ := rng_slot (Z := fun z => OutE C own F σ e H z Q) S (fun z => z) o
    obtain ⟨r, c, h1, h2⟩ := S.sl i _ hs
    obtain ⟨_, _, _, R⟩ := S.rg r c h1
    by_cases k1 : k = 1
    · simp only [k1, if_true] at o
      exact ⟨.ref r, h2, r, _, k, .int g.i, rfl, rfl, SqL.of R.at_, atI_val (j := 1) k1 rfl, OutE.now S o (.int_ _)⟩
    by_cases k2 : k = 2
    · simp [k2] at o
      exact ⟨.ref r, h2, r, _, k, .int g.b, rfl, rfl, SqL.of R.at_, atI_val (j := 2) k2 rfl, OutE.now S o (.int_ _)⟩
    by_cases k3 : k = 3
    · simp [k3] at o
      exact ⟨.ref r, h2, r, _, k, .int g.s, rfl, rfl, SqL.of R.at_, atI_val (j := 3) k3 rfl, OutE.now S o (.int_ _)⟩
    · simp only [k1, k2, k3, if_false] at o; exact o.elim
theorem de_rgLen {i : Nat} {y : Str} {j : Nat} {p1 p2 p3 : Pos} (hv : PE C.X (.Name y p1) (tVar i)) (h : ∀ {t : TA}, PA C.X [.Subscript (.Name y p1) (.Constant (.int 0) j p2) p3] t → PE C.X x (tCB (fun xs H Q => ∃ x n, xs = [x] ∧ LenV C.X.K x H n ∧ Q (.int n) H) t)) : DE C x (rgLen i) :=
  pe_imp (h (pa_cons (pe_ix ix_list hv pe_int (fun _ _ => rfl)) pa_nil)) fun σ H Q ⟨own, F, e, g, S, o⟩ => by
    unfold rgLen at o
    obtain ⟨hs, o⟩ := rng_slot (Z := fun z => OutE C own F σ e H z Q) S (fun z => z) o
    obtain ⟨r, c, h1, h2⟩ := S.sl i _ hs
    obtain ⟨_, _, _, R⟩ := S.rg r c h1
    exact ⟨.ref r, h2, r, _, 0, .ref c, rfl, rfl, SqL.of R.at_, atI_val (j := 0) rfl rfl, .ref c, g.cells.length, rfl, .inl ⟨_, SqL.of R.ce, by simp⟩, OutE.now S o (.int_ _)⟩
theorem de_rgCell {i : Nat} {y y' : Str} {j j' : Nat} {p1 p2 p3 q1 q2 q3 : Pos} (hv : PE C.X (.Name y p1) (tVar i)) (hv' : PE C.X (.Name y' q1) (tVar i)) : DE C (.Subscript (.Subscript (.Name y p1) (.Constant (.int 0) j p2) p3) (.Subscript (.Name y' q1) (.Constant (.int 1) j' q2) q3) pos) (rgCell i) :=
  pe_imp (pe_ix ix_list (pe_ix ix_list hv pe_int (fun _ _ => rfl)) (pe_ix ix_list hv' pe_int (fun _ _ => rfl)) (fun _ _ => rfl)) fun σ H Q ⟨own, F, e, g, S, o⟩ => by
    unfold rgCell at o
    obtain ⟨hs, o⟩ := rng_slot (Z := fun z => OutE C own F σ e H z Q) S (fun z => z) o
    obtain ⟨r, c, h1, h2⟩ := S.sl i _ hs
    obtain ⟨_, _, _, R⟩ := S.rg r c h1
    cases ha : atI g.cells g.i with
    | none => simp only [ha] at o; exact o.elim
    | some z =>
      simp only [ha] at o
      refine ⟨.ref r, h2, r, _, 0, .ref c, rfl, rfl, SqL.of R.at_, atI_val (j := 0) rfl rfl, .ref r, h2, r, _, 1, .int g.i, rfl, rfl, SqL.of R.at_, atI_val (j := 1) rfl rfl, c, _, g.i, .int z, rfl, rfl, SqL.of R.ce, ?_, OutE.now S o (.int_ _)⟩
      unfold atI at ha ⊢
      rw [List.length_map]
      cases hx : ixN g.cells.length g.i with
      | none => rw [hx] at ha; cases ha
      | some q =>
        rw [hx] at ha
        simp only [Option.bind_some] at ha ⊢
        rw [List.getElem?_map, ha]; rfl
theorem sr_rng {own : Own} {F H : Hp} {σ : L2.St} {e : En} {g g' : Rng} {r c : Addr} (S : SR C own F H σ e g) (h1 : C.rg = some (r, c)) (hc : g'.cells = g.cells) (i0 : 0 ≤ g'.i) (b0 : 0 ≤ g'.b) (s0 : 0 ≤ g'.s) (s1 : g'.s < 2147483563) : SR C own F (L2.upd H r (.lst [.ref c, .int g'.i, .int g'.b, .int g'.s])) σ e g' := by
  obtain ⟨hi, hc', hc0, R⟩ := S.rg r c h1
  have x : ExtI C H (L2.upd H r (.lst [.ref c, .int g'.i, .int g'.b, .int g'.s])) := fun a o z n => by
    have ne : a ≠ r := fun q => n (by rw [q]; exact hi)
    rw [upd_ne ne]; exact z
  have tt : Tabs C.tb (L2.upd H r (.lst [.ref c, .int g'.i, .int g'.b, .int g'.s])) := S.tb.upd R.at_
  refine S.ext x (fun a z => ?_) tt (fun r' c'' z => ?_) fun r' a b z => S.noPo h1 z
  · rcases z with (⟨c'', z⟩ | ⟨r', b', z | z⟩) | ⟨p, hp, rfl⟩
    · rw [h1] at z; cases z; exact ⟨_, upd_same, .inl ⟨_, rfl⟩⟩
    · exact S.noPo h1 z
    · exact S.noPo h1 z
    · exact tt.at_ hp
  · rw [h1] at z; cases z
    exact ⟨R.ne, upd_same, by rw [upd_ne R.ne, hc]; exact R.ce, i0, b0, s0, s1, by rw [hc]; exact R.cl⟩
theorem ds_rgSet {i : Nat} {k : Int} {ko : Expr} (h : ∀ {t tk : TE}, PE C.X x t → PE C.X ko tk → PS C.X st (tAsg t (gSub (tVar i) tk rSetL))) (hk : PE C.X ko (tC (.int k))) (ha : DE C x fa) : DS C st (rgSet i k fa) :=
  ps_imp (h ha hk) fun D σ H ⟨own, F, e, g, S, o⟩ => by
    unfold rgSet at o
    obtain ⟨hs, o⟩ := rng_slot (Z := fun z => OutS C F z D) S (fun z => z) o
    obtain ⟨r, c, h1, h2⟩ := S.sl i _ hs
    refine ⟨own, F, e, g, S, OutS.bindE o fun d g1 H1 v x1 S1 r1 o1 => ⟨.ref r, h2, ?_⟩⟩
    obtain ⟨_, _, _, R⟩ := S1.rg r c h1
    cases d <;> first | exact o1.elim | skip
    rename_i z
    rw [r1.toInt]
    show rSetL (.ref r) (.int k) (.int z) H1 _
    by_cases k1 : k = 1 ∧ 0 ≤ z
    · simp only [k1, and_self, if_true] at o1
      exact ⟨r, _, k, 1, rfl, rfl, R.at_, by rw [k1.1]; rfl, o1 _ _ _ (sr_rng (g' := { g1 with i := z }) S1 h1 rfl k1.2 R.b0 R.s0 R.s1)⟩
    by_cases k2 : k = 2 ∧ 0 ≤ z
    · simp [k2] at o1
      exact ⟨r, _, k, 2, rfl, rfl, R.at_, by rw [k2.1]; rfl, o1 _ _ _ (sr_rng (g' := { g1 with b := z }) S1 h1 rfl R.i0 k2.2 R.s0 R.s1)⟩
    by_cases k3 : k = 3 ∧ 0 ≤ z ∧ z < 2147483563
    · simp [k3] at o1
      exact ⟨r, _, k, 3, rfl, rfl, R.at_, by rw [k3.1]; rfl, o1 _ _ _ (sr_rng (g' := { g1 with s := z }) S1 h1 rfl R.i0 R.b0 k3.2.1 k3.2.2)⟩
    · simp only [k1, k2, k3, if_false] at o1; exact o1.elim
end
end DL
set_option Elab.async false
set_option linter.all false
set_option maxRecDepth 100000
namespace DL
open PySem PySem.Spec PyProof.Rows L2
section
variable {C : Ctx} {x a b c tg : Expr} {fa fb fc : ME} {pos p : Pos} {st : Stmt} {n : Str} {es : List Expr} {fs : MA}
theorem dV (i : Nat) {y : Str} (hN : C.X.N[i]? = some y := by rfl) (hv : Vis C.X.env.scope y := by first | exact Or.inl rfl | exact Or.inr (Or.inl rfl) | exact Or.inr (Or.inr rfl)) (hd : (y == ("__debug__" : Str)) = false := by decide)
    (hcd : (y == ("__classdict__" : Str)) = false := by decide) : DE C (.Name y pos) (eVar i) := de_var (pe_var hN hv hd hcd)
theorem dGlob (d : D) {v : V} {u : Value} (hm : C.X.mg n = some u) (rv : RelV v u) (r : ∀ H A, Rep C.g H A d v) (hg : Gl C.X n := by rfl) (hd : (n == ("__debug__" : Str)) = false := by decide) : DE C (.Name n pos) (eC d) := de_const (pe_glob hg hm rv hd) r
theorem nx_add (x y : D) (z : Exc) : dAdd x y ≠ .err z := by
  unfold dAdd; split <;> (try split) <;> exact fun h => nomatch h
theorem nx_mul (x y : D) (z : Exc) : dMul x y ≠ .err z := by
  unfold dMul; split <;> (try split) <;> exact fun h => nomatch h
theorem nx_II {k : Int → Int → Res D} (h : ∀ i j z, k i j ≠ .err z) (x y : D) (z : Exc) : dII k x y ≠ .err z := by
  unfold dII; split
  · exact h _ _ _
  · exact fun h => nomatch h
theorem nx_eq (x y : D) (z : Exc) : dEq x y ≠ .err z := by unfold dEq; split <;> exact fun h => nomatch h
theorem nx_ne (x y : D) (z : Exc) : dNe x y ≠ .err z := by unfold dNe; split <;> exact fun h => nomatch h
theorem nx_isN (x y : D) (z : Exc) : dIsN x y ≠ .err z := by unfold dIsN; split <;> exact fun h => nomatch h
theorem nx_notIn (x y : D) (z : Exc) : dNotInS x y ≠ .err z := by
  unfold dNotInS dNotIn; split
  · exact fun h => nomatch h
  · split <;> exact fun h => nomatch h
theorem nx_ix (x y : D) (z : Exc) : dIx x y ≠ .err z := by
  unfold dIx; split
  · split <;> exact fun h => nomatch h
  · split <;> exact fun h => nomatch h
  · split
    · split <;> exact fun h => nomatch h
    · exact fun h => nomatch h
  · exact fun h => nomatch h
theorem nx_if {c : Prop} [Decidable c] {d : D} (z : Exc) : (if c then Res.ok d else .stuck) ≠ .err z := by split <;> exact fun h => nomatch h
theorem nx_ok {d : D} (z : Exc) : (Res.ok d) ≠ .err z := fun h => nomatch h
variable (ha : DE C a fa) (hb : DE C b fb) (hc : DE C c fc)
include ha hb
theorem dAddE : DE C (.BinOp a .Add b pos) (eOp dAdd fa fb) := de_bin or_addD opD_add nx_add ha hb
theorem dSubE : DE C (.BinOp a .Sub b pos) (eOp dSub fa fb) := de_bin op_sub opD_sub (nx_II fun _ _ => nx_ok) ha hb
theorem dMulE : DE C (.BinOp a .Mult b pos) (eOp dMul fa fb) := de_bin or_mulD opD_mul nx_mul ha hb
theorem dFDivE : DE C (.BinOp a .FloorDiv b pos) (eOp dFDiv fa fb) := de_bin op_fdivW opD_fdiv (nx_II fun _ _ => nx_if) ha hb
theorem dModE : DE C (.BinOp a .Mod b pos) (eOp dMod fa fb) := de_bin op_mod opD_mod (nx_II fun _ _ => nx_if) ha hb
theorem dPowE : DE C (.BinOp a .Pow b pos) (eOp dPow fa fb) := de_bin op_pow opD_pow (nx_II fun _ _ => nx_if) ha hb
theorem dEqE (hu : C.X.A.units + 65 < cLine) : DE C (.Compare a [.Eq] [b] pos) (eOp dEq fa fb) := de_cmp (op_eqD (Nat.lt_of_succ_lt hu)) opD_eq nx_eq ha hb (nomark _)
theorem dNeE (hu : C.X.A.units + 65 < cLine) : DE C (.Compare a [.NotEq] [b] pos) (eOp dNe fa fb) := de_cmp (op_neD (Nat.lt_of_succ_lt hu)) opD_ne nx_ne ha hb (nomark _)
theorem dIsNE : DE C (.Compare a [.Is] [b] pos) (eOp dIsN fa fb) := de_cmp op_isN opD_isN nx_isN ha hb (nomark _)
theorem dLtT : DT C (.Compare a [.Lt] [b] pos) (eTest (eOp dLtI fa fb)) := dt_cmp op_lt opD_lt (nx_II fun _ _ => nx_ok) ha hb (nomark _)
theorem dGtT : DT C (.Compare a [.Gt] [b] pos) (eTest (eOp dGt fa fb)) := dt_cmp op_gt opD_gt (nx_II fun _ _ => nx_ok) ha hb (nomark _)
theorem dGeT : DT C (.Compare a [.GtE] [b] pos) (eTest (eOp dGe fa fb)) := dt_cmp op_ge opD_ge (nx_II fun _ _ => nx_ok) ha hb (nomark _)
theorem dEqT (hu : C.X.A.units + 65 < cLine) : DT C (.Compare a [.Eq] [b] pos) (eTest (eOp dEq fa fb)) := dt_cmp (op_eqD (Nat.lt_of_succ_lt hu)) opD_eq nx_eq ha hb (nomark _)
theorem dNeT (hu : C.X.A.units + 65 < cLine) : DT C (.Compare a [.NotEq] [b] pos) (eTest (eOp dNe fa fb)) := dt_cmp (op_neD (Nat.lt_of_succ_lt hu)) opD_ne nx_ne ha hb (nomark _)
theorem dIsNT : DT C (.Compare a [.Is] [b] pos) (eTest (eOp dIsN fa fb)) := dt_cmp op_isN opD_isN nx_isN ha hb (nomark _)
theorem dNotInT (hu : C.X.A.units + 65 < cLine) (hm : behindInMarks .NotIn b = false := by rfl) : DT C (.Compare a [.NotIn] [b] pos) (eTest (eOp dNotInS fa fb)) := dt_cmp (or_notInA hu) opD_notIn nx_notIn ha hb hm
theorem dIxE (hs : PlainIx b := by exact fun _ _ => rfl) : DE C (.Subscript a b pos) (eOp dIx fa fb) := de_ix ix_seq opD_ix nx_ix ha hb hs
end
theorem nx_neg (x : D) (z : Exc) : dNeg x ≠ .err z := by unfold dNeg; split <;> exact fun h => nomatch h
section
theorem dNegE {C : Ctx} {a : Expr} {fa : ME} {pos : Pos} (ha : DE C a fa) : DE C (.UnaryOp .USub a pos) (eUn dNeg fa) := de_un un_neg unD_neg nx_neg ha (fun h => pe_un un_neg h)
end
section
variable {C : Ctx} {x a b c tg : Expr} {fa fb fc : ME} {pos p : Pos} {st : Stmt} {n : Str} {es : List Expr} {fs : MA}
theorem nx_abs (x : List D) (z : Exc) : dAbs x ≠ .err z := by unfold dAbs; split <;> exact fun h => nomatch h
theorem nx_len (x : List D) (z : Exc) : dLen x ≠ .err z := by unfold dLen; split <;> (try split) <;> exact fun h => nomatch h
theorem nx_all (x : List D) (z : Exc) : dAll x ≠ .err z := by unfold dAll; split <;> (try split) <;> exact fun h => nomatch h
theorem dBlt {id : String} {r : List V → Hp → VK → Prop} {f : List D → Res D} (hc : CallR C.X (.builtin id) r) (hr : CallD C.g r f) (nx : ∀ x z, f x ≠ .err z) (hm : C.X.mg n = none) (hv : bootBuiltins n = some (.builtin id)) (ha : DA C (a :: es) fs) (hg : Gl C.X n := by rfl) (hn : n ≠ "__name__" := by decide) (hdb : (n == ("__debug__" : Str)) = false := by decide)
    (he : starEach (a :: es) C.X.env = (false, eval a C.X.env) :: starEach es C.X.env := by rfl) (hpl : (backTo pos (starEach es C.X.env)).any (·.1) = false := by rfl) : DE C (.Call (.Name n p) (a :: es) [] pos) (eCall f fs) := pe_imp (pe_callB hc hg hm hv ha hn hdb he hpl) (tD_call hr nx)
theorem bb_abs : bootBuiltins "abs" = some (.builtin "abs") := by decide +kernel
theorem bb_len : bootBuiltins "len" = some (.builtin "len") := PySem.boot_len
theorem bb_all : bootBuiltins "all" = some (.builtin "all") := by decide +kernel
theorem bb_isi : bootBuiltins "isinstance" = some (.builtin "isinstance") := by decide +kernel
theorem bb_tInt : bootBuiltins "int" = some (.type "int") := by decide +kernel
theorem bb_tBool : bootBuiltins "bool" = some (.type "bool") := by decide +kernel
theorem bb_tStr : bootBuiltins "str" = some (.type "str") := by decide +kernel
theorem bb_tTup : bootBuiltins "tuple" = some (.type "tuple") := by decide +kernel
theorem bb_tList : bootBuiltins "list" = some (.type "list") := by decide +kernel
theorem dAbsE (hm : C.X.mg "abs" = none) (ha : DA C [a] fs) (hg : Gl C.X "abs" := by rfl) (he : starEach [a] C.X.env = (false, eval a C.X.env) :: starEach [] C.X.env := by rfl) (hpl : (backTo pos (starEach [] C.X.env)).any (·.1) = false := by rfl) : DE C (.Call (.Name "abs" p) [a] [] pos) (eCall dAbs fs) := dBlt call_abs callD_abs nx_abs hm bb_abs ha hg (by decide) (by decide) he hpl
theorem dLenE (hm : C.X.mg "len" = none) (ha : DA C [a] fs) (hg : Gl C.X "len" := by rfl) (he : starEach [a] C.X.env = (false, eval a C.X.env) :: starEach [] C.X.env := by rfl) (hpl : (backTo pos (starEach [] C.X.env)).any (·.1) = false := by rfl) : DE C (.Call (.Name "len" p) [a] [] pos) (eCall dLen fs) := dBlt call_len callD_len nx_len hm bb_len ha hg (by decide) (by decide) he hpl
theorem dAllE (hm : C.X.mg "all" = none) (ha : DA C [a] fs) (hcm : C.X.calm = true := by rfl) (hg : Gl C.X "all" := by rfl) (he : starEach [a] C.X.env = (false, eval a C.X.env) :: starEach [] C.X.env := by rfl) (hpl : (backTo pos (starEach [] C.X.env)).any (·.1) = false := by rfl) : DE C (.Call (.Name "all" p) [a] [] pos) (eCall dAll fs) := dBlt (cr_all hcm) callD_all nx_all hm bb_all ha hg (by decide) (by decide) he hpl
def Ty.bb : (t : Ty) → bootBuiltins (Str.ofString t.nm) = some (.type t.nm)
  | .tInt => bb_tInt | .tBool => bb_tBool | .tStr => bb_tStr | .tTup => bb_tTup | .tList => bb_tList
def eIsi (t : Ty) (f : ME) : ME := fun e g => (f e g).bind fun p => pureG (dIsinst t [p.1]) p.2
theorem kb_bool (t : Ty) : kitB "bool" t.nm = some (t = .tInt || t = .tBool) := by cases t <;> decide +kernel
theorem kb_non (t : Ty) : kitB "NoneType" t.nm = some false := by cases t <;> decide +kernel
theorem kb_int (t : Ty) : kitB "int" t.nm = some (decide (t = .tInt)) := by cases t <;> decide +kernel
theorem kb_str (t : Ty) : kitB "str" t.nm = some (decide (t = .tStr)) := by cases t <;> decide +kernel
theorem kb_tup (t : Ty) : kitB "tuple" t.nm = some (decide (t = .tTup)) := by cases t <;> decide +kernel
theorem kb_lst (t : Ty) : kitB "list" t.nm = some (decide (t = .tList)) := by cases t <;> decide +kernel
theorem tyx_of {own : Own} {H : Hp} {d : D} {v : V} (r : Rep C.g H (C.Al own) d v) (t : Ty) (n : ∀ c ns l, d ≠ .ins c ns l) (n2 : ∀ ks l, d ≠ .dic ks l) (n3 : (∀ ks, d ≠ .key ks) ∧ ∀ ks l, d ≠ .dcT ks l) : ∃ u, TyX C.X.K H v u ∧ PySem.W.kitOne C.X.K u (.type t.nm) = some (dIsi t d) := by
  cases d with
  | non => rw [r.toNon]; exact ⟨_, .base .non, kit_ty (kb_non t)⟩
  | bl b => rw [r.toBl]; exact ⟨_, .base (.bl b), kit_ty (kb_bool t)⟩
  | int b => rw [r.toInt]; exact ⟨_, .base (.int b), kit_ty (kb_int t)⟩
  | str b => rw [r.toStr]; exact ⟨_, .base (.str b), kit_ty (kb_str t)⟩
  | tup l =>
    obtain ⟨a, vs, rfl, h1, h2⟩ := r.toTup
    refine ⟨.type "tuple", ?_, kit_ty (kb_tup t)⟩
    rcases h1 with (h | ⟨o, h⟩) | ⟨o, its, n, h3, h4, _⟩
    · exact .base (.tup h)
    · exact .fTuple h
    · exact .kTuple h3 h4
  | lst l =>
    obtain ⟨a, vs, rfl, h0, h1, h2⟩ := r.toLst
    exact ⟨.type "list", .base (.lst h1), kit_ty (kb_lst t)⟩
  | dic ks l => exact (n2 _ _ rfl).elim
  | ins c ns l => exact (n _ _ _ rfl).elim
  | key ks => exact (n3.1 _ rfl).elim
  | dcT ks l => exact (n3.2 _ _ rfl).elim
theorem dIsiE (t : Ty) {q : Pos} (hm : C.X.mg "isinstance" = none) (hmt : C.X.mg (Str.ofString t.nm) = none) (ha : DE C a fa) (hg : Gl C.X "isinstance" := by rfl) (hgt : Gl C.X (Str.ofString t.nm) := by rfl) (hnt : Str.ofString t.nm ≠ "__name__" := by decide) (hdt : (Str.ofString t.nm == ("__debug__" : Str)) = false := by decide)
    (he : starEach [a, .Name (Str.ofString t.nm) q] C.X.env = (false, eval a C.X.env) :: starEach [.Name (Str.ofString t.nm) q] C.X.env := by rfl) (he2 : starEach [.Name (Str.ofString t.nm) q] C.X.env = (false, eval (.Name (Str.ofString t.nm) q) C.X.env) :: starEach [] C.X.env := by rfl)
    (hpl : (backTo pos (starEach [.Name (Str.ofString t.nm) q] C.X.env)).any (·.1) = false := by rfl) : DE C (.Call (.Name "isinstance" p) [a, .Name (Str.ofString t.nm) q] [] pos) (eIsi t fa) :=
  pe_imp (pe_callB call_isi hg hm bb_isi (pa_cons ha (pa_cons (pe_bltn (v := .ty t.nm) hgt hmt t.bb rfl hnt hdt) pa_nil he2) he) (by decide) (by decide) he hpl) fun σ H Q ⟨own, F, e, g, S, o⟩ => ⟨own, F, e, g, S, OutE.bindE o fun d g1 H1 v x1 S1 r1 o1 => by
    have h : (∀ c ns l, d ≠ .ins c ns l) ∧ (∀ ks l, d ≠ .dic ks l) ∧ (∀ ks, d ≠ .key ks) ∧ ∀ ks l, d ≠ .dcT ks l := by
      refine ⟨?_, ?_, ?_, ?_⟩
      · intro c ns l z; subst z; exact o1.elim
      · intro c ns z; subst z; exact o1.elim
      · intro c z; subst z; exact o1.elim
      · intro c ns z; subst z; exact o1.elim
    obtain ⟨u, h1, h2⟩ := tyx_of r1 t h.1 h.2.1 h.2.2
    have e1 : dIsinst t [d] = .ok (.bl (dIsi t d)) := by
      cases d <;> first | rfl | exact (h.1 _ _ _ rfl).elim | exact (h.2.1 _ _ rfl).elim | exact (h.2.2.1 _ rfl).elim | exact (h.2.2.2 _ _ rfl).elim
    rw [e1] at o1
    exact ⟨v, .ty t.nm, u, .type t.nm, dIsi t d, rfl, .ty _, h1, h2, OutE.now S1 o1 (.bl_ _)⟩⟩
theorem dTupE (ha : DA C es fs) {k : Nat} (h : ∀ {t : TA}, PA C.X es t → PE C.X (.Tuple es k pos) (tTup t) := by exact fun h => pe_tup h) : DE C (.Tuple es k pos) (eTup fs) := de_tup h ha
theorem alen1 {fa : ME} : ∀ e g r, aCons fa aNil e g = .ok r → r.1.length = 1 := fun e g r h => by
  unfold aCons aNil at h
  cases hf : fa e g with
  | ok p => rw [hf] at h; cases h; rfl
  | err y => rw [hf] at h; cases h
  | stuck => rw [hf] at h; cases h
end
end DL
set_option Elab.async false
set_option linter.all false
set_option maxRecDepth 100000
namespace DL
open PySem PySem.Spec PyProof.Rows L2
structure Cal (P : Program) (w : World) (K : PySem.W.Frag) (mg : Str → Option Value) (base : Heap) (k : Nat) (f : Addr) (ps : List Str) (sp : Sp) : Prop where
  ex : ∃ fd, FnOk P w K mg base (L2N.CX P w) k f fd ps sp ∧ L2.Binds K fd ps []
theorem Cal.mk' {P : Program} {w : World} {K : PySem.W.Frag} {mg : Str → Option Value} {base : Heap} {k : Nat} {f : Addr} {ps : List Str} {sp : Sp} {fd : FuncData} (h : FnOk P w K mg base (L2N.CX P w) k f fd ps sp) (b : L2.Binds K fd ps []) : Cal P w K mg base k f ps sp := ⟨fd, h, b⟩
section
variable {C : Ctx} {x a b c tg : Expr} {fa fb fc : ME} {pos p : Pos} {st : Stmt} {n : Str} {es : List Expr} {fs : MA} {k : Nat} {f : Addr} {fd : FuncData} {ps : List Str}
theorem dCallE {m : List D → Res D} (FF : Cal C.X.prog C.X.w C.X.K C.X.mg C.X.base k f ps (spD C.g m)) (hr : Room k C.X.A) (tk : L2N.Takes C.X C.W) (hm : C.X.mg n = some (.ref f)) (hk : PySem.W.keepIn C.X.K (.ref f) = true)
    (ha : DA C (a :: es) fs) (hg : Gl C.X n := by rfl) (hdb : (n == ("__debug__" : Str)) = false := by decide) (he : starEach (a :: es) C.X.env = (false, eval a C.X.env) :: starEach es C.X.env := by rfl) (hpl : (backTo pos (starEach es C.X.env)).any (·.1) = false := by rfl) :
    DE C (.Call (.Name n p) (a :: es) [] pos) (eCall m fs) := by
  obtain ⟨fd, FF, hb⟩ := FF
  have h := de_callF (p := p) (dd := []) FF hr tk hg hm hk hb .nil (fun _ _ => .nil) ha hdb he hpl
  simpa using h
theorem dCallG {m : List D → Rng → Res (D × Rng)} {i : Nat} {y : Expr} (FF : Cal C.X.prog C.X.w C.X.K C.X.mg C.X.base k f ps (spG C.g m)) (hr : Room k C.X.A) (hm : C.X.mg n = some (.ref f)) (hk : PySem.W.keepIn C.X.K (.ref f) = true)
    (hv : PE C.X y (tVar i)) (ha : DA C es fs) (hg : Gl C.X n := by rfl) (hdb : (n == ("__debug__" : Str)) = false := by decide) (he : starEach (y :: es) C.X.env = (false, eval y C.X.env) :: starEach es C.X.env := by rfl) (hpl : (backTo pos (starEach es C.X.env)).any (·.1) = false := by rfl) :
    DE C (.Call (.Name n p) (y :: es) [] pos) (eCallG i m fs) := by
  obtain ⟨fd, FF, hb⟩ := FF
  exact de_callG FF hr hg hm hk hb hv ha hdb he hpl
theorem dNm (i : Nat) {y : Str} (hN : C.X.N.Nodup) (hi : C.X.N[i]? = some y := by rfl) (hx : Loc C.X.env.scope y := by first | exact Or.inl rfl | exact Or.inr rfl) (hf : C.X.fn y = true ∨ C.X.env.scope.names.lookup y = some .local := by first | exact .inl rfl | exact .inr rfl) : DG C (.Name y pos) [i] (gNm i) := dg_name (pg_name hN hi hx hf)
theorem dLcE {elt iter : Expr} {ifs : List Expr} {scope : Scope} {ts vs : List Nat} {own : List (Str × Nat)} {fi : MA} {tf : TgF} {ft : MT} {fe : ME} (hN : C.X.N.Nodup) (ok : BlkOk C.X.N C.X.env.scope scope own) (hi : DI C tg iter fi) (hsub : ∀ t ∈ ts, t ∈ vs)
    (hg : ∀ s H Ca cl fp, DG (C.blk s H scope (compEnvC scope cl Ca C.X.env) fp) tg ts tf) (ht : ∀ s H Ca cl fp, DTs (C.blk s H scope (compEnvC scope cl Ca C.X.env) fp) ifs ft)
    (he : ∀ s H Ca cl fp, DE (C.blk s H scope (compEnvC scope cl Ca C.X.env) fp) elt fe) (hv : vs = own.map (·.2) := by rfl) (hc : C.X.calm = true := by rfl) (hs : ∀ x, foldedSetIterable iter C.X.env x = pure x := by intro _; rfl) :
    DF C (.ListComp elt [⟨tg, iter, ifs, 0⟩] scope pos) (aLc vs fi tf ft fe) := by
  subst hv
  exact lc_reads (fun hi' hg' ht' he' r => pe_imp (pe_lc hc hN hi' ok hg' ht' he' hs) r) hi hsub hg ht he
theorem ds_setFr {i : Nat} {f : MA} {t : TE} (h : PS C.X st (tAsg t (gName i))) (hr : ∀ σ H Q, tDF C f σ H Q → t σ H Q) : DS C st (sAsgF i f) := ps_imp h fun D σ H ⟨own, F, e, g, S, o⟩ => hr σ H _ ⟨own, F, e, g, S, OutS.bindF o fun l g1 H1 p vs x1 n hp S1 r1 o1 => o1 _ _ _ (S.setF x1 S1 n hp r1)⟩
theorem ds_setFrE {i : Nat} {f : MA} {t : TE} (h : PS C.X st (tAsg t (gName i))) (hr : ∀ σ H Q, tDF C f σ H Q → t σ H Q) : DS C st (sAsg i (eOfL f)) := ps_imp h fun DD σ H ⟨own, F, e, g, S, o⟩ => hr σ H _ ⟨own, F, e, g, S, by
  have o' : OutS C F (((f e g).bind fun p => .ok (D.lst p.1, p.2)).bind fun p => .ok (.nx (e.set i (.sh p.1)) p.2)) DD := o
  refine OutS.bindF (k := fun q => .ok (.nx (e.set i (.sh (.lst q.1))) q.2)) ?_ fun l g1 H1 p vs x1 n hp S1 r1 o1 => o1 _ _ _ (S1.set (.lst_ (S.fresh n) hp (r1.mono (.same fun _ _ z => z) fun a q _ => q.1)))
  cases hf : f e g with
  | ok q => rw [hf] at o'; exact o'
  | err y => rw [hf] at o'; exact o'
  | stuck => rw [hf] at o'; exact o'⟩
section
variable {elt iter : Expr} {ifs : List Expr} {scope : Scope} {ts vs : List Nat} {own : List (Str × Nat)} {fi : MA} {tf : TgF} {ft : MT} {fe : ME} {i : Nat} {y : Str} {py spos : Pos}
theorem dSetLcF (hN : C.X.N.Nodup) (ok : BlkOk C.X.N C.X.env.scope scope own) (hi : DI C tg iter fi) (hsub : ∀ t ∈ ts, t ∈ vs)
    (hg : ∀ s H Ca cl fp, DG (C.blk s H scope (compEnvC scope cl Ca C.X.env) fp) tg ts tf) (ht : ∀ s H Ca cl fp, DTs (C.blk s H scope (compEnvC scope cl Ca C.X.env) fp) ifs ft)
    (he : ∀ s H Ca cl fp, DE (C.blk s H scope (compEnvC scope cl Ca C.X.env) fp) elt fe) (hv : vs = own.map (·.2) := by rfl) (hc : C.X.calm = true := by rfl) (hy : C.X.N[i]? = some y := by rfl) (hyl : C.X.env.scope.names.lookup y = some .local := by rfl)
    (hsw : swapsWith (.ListComp elt [⟨tg, iter, ifs, 0⟩] scope pos) (some (.Name y py)) spos.line C.X.env = pure true := by exact sw_true rfl rfl rfl (by decide +kernel)) (hs : ∀ x, foldedSetIterable iter C.X.env x = pure x := by intro _; rfl) :
    DS C (.Assign [.Name y py] (.ListComp elt [⟨tg, iter, ifs, 0⟩] scope pos) spos) (sAsgF i (aLc vs fi tf ft fe)) := by
  subst hv
  exact lc_reads (fun hi' hg' ht' he' r => ds_setFr (ps_setLc hc hN hy hyl hsw hi' ok hg' ht' he' hs) r) hi hsub hg ht he
theorem dSetLc (hN : C.X.N.Nodup) (ok : BlkOk C.X.N C.X.env.scope scope own) (hi : DI C tg iter fi) (hsub : ∀ t ∈ ts, t ∈ vs)
    (hg : ∀ s H Ca cl fp, DG (C.blk s H scope (compEnvC scope cl Ca C.X.env) fp) tg ts tf) (ht : ∀ s H Ca cl fp, DTs (C.blk s H scope (compEnvC scope cl Ca C.X.env) fp) ifs ft)
    (he : ∀ s H Ca cl fp, DE (C.blk s H scope (compEnvC scope cl Ca C.X.env) fp) elt fe) (hv : vs = own.map (·.2) := by rfl) (hc : C.X.calm = true := by rfl) (hy : C.X.N[i]? = some y := by rfl) (hyl : C.X.env.scope.names.lookup y = some .local := by rfl)
    (hsw : swapsWith (.ListComp elt [⟨tg, iter, ifs, 0⟩] scope pos) (some (.Name y py)) spos.line C.X.env = pure true := by exact sw_true rfl rfl rfl (by decide +kernel)) (hs : ∀ x, foldedSetIterable iter C.X.env x = pure x := by intro _; rfl) :
    DS C (.Assign [.Name y py] (.ListComp elt [⟨tg, iter, ifs, 0⟩] scope pos) spos) (sAsg i (eOfL (aLc vs fi tf ft fe))) := by
  subst hv
  exact lc_reads (fun hi' hg' ht' he' r => ds_setFrE (ps_setLc hc hN hy hyl hsw hi' ok hg' ht' he' hs) r) hi hsub hg ht he
end
end
theorem fn_stuck {P : Program} {w : World} {K : PySem.W.Frag} {mg : Str → Option Value} {base : Heap} {cx : CXT} {k : Nat} {f : Addr} {fd : FuncData} {ps : List Str} {g : G} {m : List D → Res D} (h : ∀ ds, m ds = .stuck) : FnOk P w K mg base cx k f fd ps (spD g m) :=
  ⟨fun vs H Q E ⟨A, ds, r, _, _, o⟩ => by rw [h] at o; exact o.elim, fun A outer s H args us vs Q E _ _ _ _ ⟨A0, ds, r, _, _, o⟩ => by rw [h] at o; exact o.elim⟩
def spSrc (K : PySem.W.Frag) : Sp := fun vs H Q _ => ∃ (a : Addr) (ns : List Int), vs = [.ref a] ∧ SqL K H a (ns.map V.int) ∧ ns.length ≤ 63 ∧ ∀ H' r c g, Same H H' → H r = none → H c = none → RngAt H' r c g → Q (.ref r) H'
def spLaw (K : PySem.W.Frag) (tb : List (Addr × Str)) : Sp := fun vs H Q _ => ∃ (a : Addr) (ns : List Int), vs = [.ref a] ∧ Tabs tb H ∧ SqL K H a (ns.map V.int) ∧ ns.length ≤ 63 ∧ ∀ H', Q (.bl true) H'
structure Rng.Ok (g : Rng) : Prop where
  i0 : 0 ≤ g.i
  b0 : 0 ≤ g.b
  s0 : 0 ≤ g.s
  s1 : g.s < 2147483563
  cl : g.cells.length ≤ 63
theorem RngAt.ok {H : Hp} {r c : Addr} {g : Rng} (R : RngAt H r c g) : g.Ok := ⟨R.i0, R.b0, R.s0, R.s1, R.cl⟩
section
variable {P : Program} {w : World} {K : PySem.W.Frag} {mg : Str → Option Value} {base : Heap} {cm : Str → Option Addr} {tb : List (Addr × Str)}
end
end DL
namespace DL
open PySem PySem.Spec PyProof.Rows L2
theorem cx_false {P : Program} {w : World} {H : Hp} {s : Shared} {e : Value} {s' : Shared} (h : L2N.CX P w [] H s (fun _ _ _ => False) e s') : False := by
  obtain ⟨_, _, _, _, _, _, _, _, _, _, _, _, z⟩ := h
  exact z.elim
theorem cut63 {ns : List Int} (h : ns.length ≤ 63) : cutV (ns.map V.int) none (some 63) = ns.map V.int := by
  unfold cutV
  have h1 : HT.sIx (ns.map V.int).length 0 none = 0 := rfl
  have h2 : HT.sIx (ns.map V.int).length (ns.map V.int).length (some 63) = ns.length := by
    rw [List.length_map]
    have := HT.sIx_nat ns.length ns.length 63
    rw [show ((63 : Nat) : Int) = 63 from rfl] at this
    rw [this]; omega
  rw [h1, h2, List.drop_zero, Nat.sub_zero, List.take_of_length_le (by simp)]
end DL
namespace DL
def fuGcd (e : En) : Nat := match e[1]? with
  | some (Slot.sh (D.int i)) => i.natAbs + 1
  | _ => 0
def fuGcd2 (e : En) : Nat := match e[3]? with
  | some (Slot.sh (D.int i)) => i.natAbs + 1
  | _ => 0
end DL
set_option Elab.async false
set_option linter.all false
set_option maxRecDepth 100000
namespace DL
open PySem PySem.Spec PyProof.Rows L2
def sBad : MS := fun _ _ => .stuck
section
variable {C : Ctx} {x a b lo hi : Expr} {fa fb fl fh : ME} {pos p p2 apos : Pos} {st : Stmt} {n : Str} {es : List Expr} {fs : MA}
theorem ds_bad : DS C st sBad := ⟨fun _ _ _ _ _ _ ⟨_, _, _, _, _, o⟩ => o.elim⟩
def dList : List D → Res D
  | [.lst l] => .ok (.lst l)
  | [.tup l] => .ok (.lst l)
  | _ => .stuck
def dTupOf : List D → Res D
  | [.lst l] => .ok (.tup l)
  | [.tup l] => .ok (.tup l)
  | _ => .stuck
theorem nx_list (x : List D) (z : Exc) : dList x ≠ .err z := by unfold dList; split <;> exact fun h => nomatch h
theorem nx_tupOf (x : List D) (z : Exc) : dTupOf x ≠ .err z := by unfold dTupOf; split <;> exact fun h => nomatch h
theorem callD_list {g : G} : CallD g (fun xs H Q => ∃ p ys, xs = [.ref p] ∧ (SqL g.K H p ys ∨ SqT g.K H p ys) ∧ ∀ l, H l = none → Q (.ref l) (upd H l (.lst ys))) dList := fun xs vs H A Q r o => by
  unfold dList at o
  split at o
  · obtain ⟨v, vs', rfl, h1, h2⟩ := r.toCons
    obtain ⟨a, ws, rfl, h3, h4, h5⟩ := h1.toLst
    rw [h2.toNil]
    exact ⟨a, ws, rfl, .inl (SqL.of h4), fun l hl => o.newL hl h5⟩
  · obtain ⟨v, vs', rfl, h1, h2⟩ := r.toCons
    obtain ⟨a, ws, rfl, h3, h4⟩ := h1.toTup
    rw [h2.toNil]
    exact ⟨a, ws, rfl, .inr h3, fun l hl => o.newL hl h4⟩
  · exact o.elim
theorem callD_tupOf {g : G} : CallD g (fun xs H Q => ∃ p ys, xs = [.ref p] ∧ ((SqL g.K H p ys ∧ ∀ l, H l = none → Q (.ref l) (upd H l (.tup ys))) ∨ (SqT g.K H p ys ∧ Q (.ref p) H))) dTupOf := fun xs vs H A Q r o => by
  unfold dTupOf at o
  split at o
  · obtain ⟨v, vs', rfl, h1, h2⟩ := r.toCons
    obtain ⟨a, ws, rfl, h3, h4, h5⟩ := h1.toLst
    rw [h2.toNil]
    exact ⟨a, ws, rfl, .inl ⟨SqL.of h4, fun l hl => o.newT hl h5⟩⟩
  · obtain ⟨v, vs', rfl, h1, h2⟩ := r.toCons
    obtain ⟨a, ws, rfl, h3, h4⟩ := h1.toTup
    rw [h2.toNil]
    exact ⟨a, ws, rfl, .inr ⟨h3, o.now (.tup_ h3 h4)⟩⟩
  · exact o.elim
theorem dListE (hm : C.X.mg "list" = none) (ha : DA C [a] fs) (hg : Gl C.X "list" := by rfl) (he : starEach [a] C.X.env = (false, eval a C.X.env) :: starEach [] C.X.env := by rfl) (hpl : (backTo pos (starEach [] C.X.env)).any (·.1) = false := by rfl) :
    DE C (.Call (.Name "list" p) [a] [] pos) (eCall dList fs) := pe_imp (pe_callTy call_list_of hg hm (by decide +kernel) ha (by decide) (by decide) he hpl) (tD_call callD_list nx_list)
theorem dTupleE (hm : C.X.mg "tuple" = none) (ha : DA C [a] fs) (hg : Gl C.X "tuple" := by rfl) (he : starEach [a] C.X.env = (false, eval a C.X.env) :: starEach [] C.X.env := by rfl) (hpl : (backTo pos (starEach [] C.X.env)).any (·.1) = false := by rfl) :
    DE C (.Call (.Name "tuple" p) [a] [] pos) (eCall dTupOf fs) := pe_imp (pe_callTy call_tuple_of hg hm (by decide +kernel) ha (by decide) (by decide) he hpl) (tD_call callD_tupOf nx_tupOf)
def OutP (C : Ctx) (own : Own) (F : Hp) (σ : L2.St) (e : En) (H : Hp) (r : Res (Option Int × Rng)) (Q : Option Int → Hp → Prop) : Prop :=
  match r with
  | .ok (d, g') => ∀ H', ExtI C H H' → SR C own F H' σ e g' → Q d H'
  | .err x => ∀ H' c dd, ExtI C H H' → (∃ g', SR C own F H' σ e g') → RepX C.g H' (C.Al own) x c dd → C.W c dd σ H'
  | .stuck => False
abbrev MP := En → Rng → Res (Option Int × Rng)
def pNo : MP := fun _ g => .ok (none, g)
def pAt (f : ME) : MP := fun e g => (f e g).bind fun p => match p.1 with
  | .int i => .ok (some i, p.2)
  | _ => .stuck
def tDP (C : Ctx) (f : MP) : TO := fun σ H Q => ∃ own F e g, SR C own F H σ e g ∧ OutP C own F σ e H (f e g) Q
def DP (C : Ctx) (x : Option Expr) (f : MP) : Prop := PO C.X x (tDP C f)
theorem po_imp {X : Cx} {x : Option Expr} {t t' : TO} (h : PO X x t) (i : ∀ σ H Q, t' σ H Q → t σ H Q) : PO X x t' := ⟨fun pins s σ H Q I q => h.run pins s σ H Q I (i σ H Q q)⟩
theorem dp_no : DP C none pNo := po_imp po_none fun σ H Q ⟨own, F, e, g, S, o⟩ => o H (.refl H) S
theorem dp_at (ha : DE C a fa) : DP C (some a) (pAt fa) := po_imp (po_some ha) fun σ H Q ⟨own, F, e, g, S, o⟩ => ⟨own, F, e, g, S, by
  unfold pAt at o
  cases hf : fa e g with
  | ok q =>
    obtain ⟨d, g1⟩ := q
    rw [hf] at o
    intro H1 v x1 S1 r1
    cases d <;> first | exact o.elim | skip
    rename_i i
    exact ⟨i, r1.toInt, o H1 x1 S1⟩
  | err y => rw [hf] at o; exact o
  | stuck => rw [hf] at o; exact o.elim⟩
def cutD {α : Type} (l : List α) (lo hi : Option Int) : List α := (l.drop (HT.sIx l.length 0 lo)).take (HT.sIx l.length l.length hi - HT.sIx l.length 0 lo)
def dSl (x : D) (lo hi : Option Int) : Res D := match x with
  | .lst l => .ok (.lst (cutD l lo hi))
  | .tup l => .ok (.tup (cutD l lo hi))
  | .str z => if z.length ≤ 16777216 then .ok (.str (cutS z lo hi)) else .stuck
  | _ => .stuck
def eSl (a : ME) (l h : MP) : ME := fun e g => (a e g).bind fun p => (l e p.2).bind fun q => (h e q.2).bind fun r => pureG (dSl p.1 q.1 r.1) r.2
theorem cut_rep {g : G} {H : Hp} {A : Addr → Prop} {l : List D} {vs : List V} (h : RepL g H A l vs) (lo hi : Option Int) : RepL g H A (cutD l lo hi) (cutV vs lo hi) := by
  unfold cutD cutV
  rw [h.length]
  exact (h.drop _).take _
theorem OutP.bindE {own : Own} {F H : Hp} {σ : L2.St} {e : En} {r : Res (Option Int × Rng)} {k : Option Int × Rng → Res (D × Rng)} {Q : VK} {Q1 : Option Int → Hp → Prop} (h : OutE C own F σ e H (r.bind k) Q)
    (hq : ∀ d g1 H1, ExtI C H H1 → SR C own F H1 σ e g1 → OutE C own F σ e H1 (k (d, g1)) Q → Q1 d H1) : OutP C own F σ e H r Q1 := by
  cases r with
  | ok a =>
    obtain ⟨d, g1⟩ := a
    intro H1 x S
    refine hq d g1 H1 x S ?_
    have h' : OutE C own F σ e H (k (d, g1)) Q := h
    cases hk : k (d, g1) with
    | ok a =>
      rw [hk] at h'
      exact fun H2 w x2 => h' H2 w (x.trans x2)
    | err y =>
      rw [hk] at h'
      exact fun H2 c dd x2 => h' H2 c dd (x.trans x2)
    | stuck => rw [hk] at h'; exact h'
  | err y => exact h
  | stuck => exact h
theorem cut_all {α : Type} {l : List α} {lo hi : Option Int} {n : Nat} (hn : l.length = n) (h : HT.sIx n 0 lo = 0 ∧ HT.sIx n n hi = n) : cutD l lo hi = l := by
  subst hn
  unfold cutD
  rw [h.1, h.2, List.drop_zero, Nat.sub_zero, List.take_length]
theorem nx_sl (x : D) (lo hi : Option Int) (z : Exc) : dSl x lo hi ≠ .err z := by unfold dSl; split <;> (try split) <;> exact fun h => nomatch h
theorem dSlE {lo hi : Option Expr} {fl fh : MP} (ha : DE C a fa) (hl : DP C lo fl) (hh : DP C hi fh) : DE C (.Subscript a (.Slice lo hi none p2) pos) (eSl fa fl fh) :=
  pe_imp (pe_slice (sl_list.or (sl_tupA.or sl_str)) ha hl hh) fun σ H Q ⟨own, F, e, g, S, o⟩ => ⟨own, F, e, g, S, OutE.bindE o fun d g1 H1 v x1 S1 r1 o1 => ⟨own, F, e, g1, S1, OutP.bindE o1 fun l g2 H2 x2 S2 o2 => ⟨own, F, e, g2, S2, OutP.bindE o2 fun h g3 H3 x3 S3 o3 => by
    have o4 := o3.toV S3 (nx_sl _ _ _)
    have r3 := S2.rep x3 (S1.rep x2 r1)
    cases d <;> first | exact o4.elim | skip
    · rename_i z
      have o5 : OutV C.g H3 (C.Al own) (if z.length ≤ 16777216 then .ok (.str (cutS z l h)) else .stuck) Q := o4
      by_cases hz : z.length ≤ 16777216
      · rw [if_pos hz] at o5
        exact .inr (.inr ⟨_, r3.toStr, hz, o5.str⟩)
      · rw [if_neg hz] at o5
        exact o5.elim
    · rename_i z
      obtain ⟨a, vs, rfl, h3, h4⟩ := r3.toTup
      refine .inr (.inl ⟨a, vs, rfl, h3, fun hc => ?_, fun _ p hp => o4.newT hp (cut_rep h4 l h)⟩)
      have e1 := cut_all (l := z) h4.length hc
      unfold dSl at o4
      simp only [e1] at o4
      exact o4.now (.tup_ h3 h4)
    · rename_i z
      obtain ⟨a, vs, rfl, h3, h4, h5⟩ := r3.toLst
      exact .inl ⟨a, vs, rfl, SqL.of h4, fun p hp => o4.newL hp (cut_rep h5 l h)⟩⟩⟩⟩
end
end DL
set_option Elab.async false
set_option linter.all false
set_option maxRecDepth 100000
namespace DL
open PySem PySem.Spec PyProof.Rows L2
section
variable {C : Ctx} {x a b lo hi : Expr} {fa fb fl fh : ME} {pos p p2 apos : Pos} {st : Stmt} {n : Str} {es : List Expr} {fs : MA}
def dIntOf : List D → Res D
  | [.str z] => match PySem.intText? z with
    | some n => if z.length ≤ 640 then .ok (.int n) else .stuck
    | none => .stuck
  | [.int i] => .ok (.int i)
  | [.bl k] => .ok (.int (if k then 1 else 0))
  | _ => .stuck
theorem nx_intOf (x : List D) (z : Exc) : dIntOf x ≠ .err z := by unfold dIntOf; split <;> (try split) <;> (try split) <;> exact fun h => nomatch h
def rIntOf : List V → Hp → VK → Prop := fun xs H Q => (∃ a n, xs = [.str a] ∧ PySem.intText? a = some n ∧ a.length ≤ 640 ∧ Q (.int n) H) ∨ (∃ i, xs = [.int i] ∧ Q (.int i) H) ∨ ∃ k, xs = [.bl k] ∧ Q (.int (if k then 1 else 0)) H
theorem call_intOf {X : Cx} : CallR X (.type "int") rIntOf := fun pins s σ H xs us Q I r h => by
  rcases h with h | h
  · exact call_int_str pins s σ H xs us Q I r h
  · exact call_int1 pins s σ H xs us Q I r h
theorem callD_intOf {g : G} : CallD g rIntOf dIntOf := fun xs vs H A Q r o => by
  unfold dIntOf at o
  split at o
  · obtain ⟨v, vs', rfl, h1, h2⟩ := r.toCons
    rw [h2.toNil, h1.toStr]
    split at o
    · rename_i n hn
      split at o
      · rename_i h
        exact .inl ⟨_, n, rfl, hn, h, o.int⟩
      · exact o.elim
    · exact o.elim
  · obtain ⟨v, vs', rfl, h1, h2⟩ := r.toCons
    rw [h2.toNil, h1.toInt]
    exact .inr (.inl ⟨_, rfl, o.int⟩)
  · obtain ⟨v, vs', rfl, h1, h2⟩ := r.toCons
    rw [h2.toNil, h1.toBl]
    exact .inr (.inr ⟨_, rfl, o.int⟩)
  · exact o.elim
theorem dIntOfE (hm : C.X.mg "int" = none) (ha : DA C [a] fs) (hg : Gl C.X "int" := by rfl) (he : starEach [a] C.X.env = (false, eval a C.X.env) :: starEach [] C.X.env := by rfl) (hpl : (backTo pos (starEach [] C.X.env)).any (·.1) = false := by rfl) :
    DE C (.Call (.Name "int" p) [a] [] pos) (eCall dIntOf fs) := pe_imp (pe_callTy call_intOf hg hm (by decide +kernel) ha (by decide) (by decide) he hpl) (tD_call callD_intOf nx_intOf)
end
end DL
set_option Elab.async false
set_option linter.all false
set_option maxRecDepth 100000
namespace DL
open PySem PySem.Spec PyProof.Rows L2
inductive Src where
  | p (i : Nat) | k (i : Nat) | d (i : Nat) | m (i : Nat)
def Src.pick {α : Type} (z : α) (us ws ds ms : List α) : Src → α
  | .p i => us.getD i z
  | .k i => ws.getD i z
  | .d i => ds.getD i z
  | .m i => ms.getD i z
def picks {α : Type} (z : α) (us ws ds ms : List α) (src : List Src) : List α := src.map (Src.pick z us ws ds ms)
theorem vals_getD {vs : List V} {us : List Value} (r : Vals vs us) (i : Nat) : RelV (vs.getD i .non) (us.getD i .none) := by
  induction r generalizing i with
  | nil => exact rfl
  | cons h t ih => cases i with
    | zero => exact h
    | succ i => simpa using ih i
theorem vals_picks {vs zs ds ms : List V} {us ws its mv : List Value} (h1 : Vals vs us) (h2 : Vals zs ws) (h3 : Vals ds its) (h4 : Vals ms mv) : ∀ src : List Src, Vals (picks .non vs zs ds ms src) (picks .none us ws its mv src)
  | [] => .nil
  | s :: src => .cons (by cases s <;> exact vals_getD (by assumption) _) (vals_picks h1 h2 h3 h4 src)
theorem rep_getD {g : G} {H : Hp} {A : Addr → Prop} : ∀ {l : List D} {vs : List V} (i : Nat), RepL g H A l vs → Rep g H A (l.getD i .non) (vs.getD i .non)
  | [], vs, i, h => by rw [h.toNil]; exact .non_
  | d :: l, vs, 0, h => by obtain ⟨v, r, rfl, h1, h2⟩ := h.toCons; exact h1
  | d :: l, vs, i + 1, h => by obtain ⟨v, r, rfl, h1, h2⟩ := h.toCons; simpa using rep_getD i h2
theorem rep_picks {g : G} {H : Hp} {A : Addr → Prop} {vs zs ds ms : List V} {us ws its mv : List D} (h1 : RepL g H A us vs) (h2 : RepL g H A ws zs) (h3 : RepL g H A its ds) (h4 : RepL g H A mv ms) : ∀ src : List Src, RepL g H A (picks .non us ws its mv src) (picks .non vs zs ds ms src)
  | [] => .nil
  | s :: src => .cons (by cases s <;> exact rep_getD _ (by assumption)) (rep_picks h1 h2 h3 h4 src)
section
variable {K : PySem.W.Frag} {x qual : Str} {params : Arguments} {body : List Stmt} {scope : Scope} {dvs : List V} {kws : List (Str × V)} {f : Addr} {fd : FuncData} {ps : List Str}
abbrev KBs (K : PySem.W.Frag) (fd : FuncData) (ps : List Str) (n : Nat) (ks : List Str) (dvs msv : List V) (src : List Src) : Prop := ∃ its mv : List Value, KBn K fd ps n ks (fun us ws => picks .none us ws its mv src) (fun vs zs => picks .non vs zs dvs msv src)
theorem kbn00 (F : FunD K x qual params body scope [] kws f fd) (n : Nat) (ks : List Str) (src : List Src)
    (h : ∀ (kV doc pm : Value) (an : Option Addr) (cdv ct : Value) (us ws : List Value), us.length = n → ws.length = ks.length → bindArgs (PySem.W.fnOf x qual params body scope .none kV doc pm an cdv ct) ⟨us, ks.zip ws⟩ = pure (ps.zip (picks .none us ws [] [] src))) : KBs K fd ps n ks [] [] src := by
  obtain ⟨oc, od, dV, kV, doc, pm, an, cdv, ct, osl, rfl, lk, hcd, hD, hK⟩ := F.ex
  rcases hD with ⟨_, rfl⟩ | ⟨e, _⟩
  · exact ⟨[], [], ⟨fun s us ws X l1 l2 => .of_eq (h kV doc pm an cdv ct us ws l1 l2), fun r1 r2 => vals_picks r1 r2 .nil .nil src⟩⟩
  · exact absurd rfl e
theorem kbn10 (F : FunD K x qual params body scope dvs kws f fd) (hd : dvs ≠ []) (n : Nat) (ks : List Str) (src : List Src)
    (h : ∀ (T : Addr) (kV doc pm : Value) (an : Option Addr) (cdv ct : Value) (us ws its : List Value), us.length = n → ws.length = ks.length → its.length = dvs.length → ∃ k, bindArgs (PySem.W.fnOf x qual params body scope (.ref T) kV doc pm an cdv ct) ⟨us, ks.zip ws⟩ = seqItems? (.ref T) >>= k ∧ k (some its.toArray) = pure (ps.zip (picks .none us ws its [] src))) : KBs K fd ps n ks dvs [] src := by
  obtain ⟨oc, od, dV, kV, doc, pm, an, cdv, ct, osl, rfl, lk, hcd, hD, hK⟩ := F.ex
  rcases hD with ⟨e, _⟩ | ⟨_, T, o, its, m, rfl, lT, oT, rT⟩
  · exact absurd e hd
  · refine ⟨its, [], ⟨fun s us ws X l1 l2 => ?_, fun r1 r2 => vals_picks r1 r2 rT .nil src⟩⟩
    obtain ⟨k, e1, e2⟩ := h T kV doc pm an cdv ct us ws its l1 l2 rT.length.symm
    refine BindsTo.of_looks fun M => ?_
    rw [e1]
    exact looks_items X lT oT (.of_pure e2)
end
def tCallND (n m : Nat) (sp : Sp) (gV : List V → List V → List V) (E : L2.St → XK) (t tk : TA) : TE := fun σ H Q => t σ H fun vs H1 => tk σ H1 fun zs H2 => vs.length = n ∧ zs.length = m ∧ sp (gV vs zs) H2 Q (E σ)
section
variable {X : Cx} {CX : CXT} {k n : Nat} {f : Addr} {fd : FuncData} {ps ks : List Str} {sp : Sp} {E : L2.St → XK} {x : Str} {p pos : Pos} {e : Expr} {es : List Expr} {kws : List Keyword} {t tk : TA} {g : List Value → List Value → List Value} {gV : List V → List V → List V}
theorem run_fnND {pins : List (Addr × Obj)} {σ : L2.St} {H : Hp} {s : Shared} {Q : VK} {us ws : List Value} {vs zs : List V} (F : FnOk X.prog X.w X.K X.mg X.base CX k f fd ps sp) (hr : Room k X.A) (hb : KBn X.K fd ps n ks g gV) (hx : PassesAt CX X σ (E σ))
    (I : Inv X pins σ H s) (r : Vals vs us) (rz : Vals zs ws) (l1 : vs.length = n) (l2 : zs.length = ks.length) (h : sp (gV vs zs) H Q (E σ)) : wpAny (model X.prog X.w) X.A (call (.ref f) us (ks.zip ws)) (EP X pins σ Q) X.xe s := by
  have r2 := hb.rel r rz
  refine wpAny_call (codeAny_mono (F.run X.A X.stack s H ⟨us, ks.zip ws⟩ (g us ws) (gV vs zs) Q (E σ) hr I.env0 (hb.to s us ws I.kIn (r.length.symm.trans l1) (rz.length.symm.trans l2)) r2 h) fun r s' hq => ?_)
  cases r with
  | error e => exact hx pins H s e s' I hq
  | ok fl =>
    cases fl with
    | ret u => exact I.after hq
    | next => exact False.elim hq
    | brk => exact False.elim hq
    | cont => exact False.elim hq
theorem pe_callND (F : FnOk X.prog X.w X.K X.mg X.base CX k f fd ps sp) (hr : Room k X.A) (hg : Gl X x) (hm : X.mg x = some (.ref f)) (hk : PySem.W.keepIn X.K (.ref f) = true) (hb : KBn X.K fd ps n ks g gV) (hx : ∀ σ, PassesAt CX X σ (E σ))
    (ha : PA X (e :: es) t) (hkw : PK X kws tk) (hall : (backToKw pos (keywordEach kws X.env)).all (·.1.isSome) = true := by rfl) (hks : (backToKw pos (keywordEach kws X.env)).filterMap (·.1) = ks := by rfl)
    (hdb : (x == ("__debug__" : Str)) = false := by decide) (he : starEach (e :: es) X.env = (false, eval e X.env) :: starEach es X.env := by rfl)
    (hpl : ((backTo pos (starEach (e :: es) X.env)).any (·.1) || (backToKw pos (keywordEach kws X.env)).any (·.1.isNone)) = false := by rfl) :
    PE X (.Call (.Name x p) (e :: es) kws pos) (tCallND n ks.length sp gV E t tk) := by
  refine ⟨fun pins s σ H Q I h => ?_⟩
  refine wpAny_Call_Name_kw (ld_glob I hg hm ?_ hdb)
  refine PySem.W.callWith_KW (h₀ := X.base) I.ok.mod.kin hk hall (thn (ha.run pos pins s σ H _ I h) fun us s1 ⟨vs, H1, I1, r, q⟩ => ?_) hpl he
  refine thn (hkw.run pos pins s1 σ H1 _ I1 q) fun ws s2 ⟨zs, H2, I2, rz, l1, l2, q2⟩ => ⟨I2.kIn, ?_⟩
  rw [hks]
  exact run_fnND F hr hb (hx σ) I2 r rz l1 l2 q2
theorem pe_callND0 (F : FnOk X.prog X.w X.K X.mg X.base CX k f fd ps sp) (hr : Room k X.A) (hg : Gl X x) (hm : X.mg x = some (.ref f)) (hk : PySem.W.keepIn X.K (.ref f) = true) (hb : KBn X.K fd ps 0 ks g gV) (hx : ∀ σ, PassesAt CX X σ (E σ))
    (hkw : PK X kws tk) (hall : (backToKw pos (keywordEach kws X.env)).all (·.1.isSome) = true := by rfl) (hks : (backToKw pos (keywordEach kws X.env)).filterMap (·.1) = ks := by rfl)
    (hdb : (x == ("__debug__" : Str)) = false := by decide) (hpl : ((backTo pos (starEach [] X.env)).any (·.1) || (backToKw pos (keywordEach kws X.env)).any (·.1.isNone)) = false := by rfl) :
    PE X (.Call (.Name x p) [] kws pos) (tCallND 0 ks.length sp gV E tNil tk) := by
  refine ⟨fun pins s σ H Q I h => ?_⟩
  refine wpAny_Call_Name_kw (ld_glob I hg hm ?_ hdb)
  refine PySem.W.callWith_KW0 (h₀ := X.base) I.ok.mod.kin hk hall ?_ hpl
  refine thn (hkw.run pos pins s σ H _ I h) fun ws s2 ⟨zs, H2, I2, rz, l1, l2, q2⟩ => ⟨I2.kIn, ?_⟩
  rw [hks]
  exact run_fnND F hr hb (hx σ) I2 .nil rz l1 l2 q2
end
def DK (C : Ctx) (kws : List Keyword) (f : MA) : Prop := PK C.X kws (tDA C f)
theorem pk_imp {X : Cx} {x : List Keyword} {t t' : TA} (h : PK X x t) (i : ∀ σ H Q, t' σ H Q → t σ H Q) : PK X x t' := ⟨fun pos pins s σ H Q I q => h.run pos pins s σ H Q I (i σ H Q q)⟩
def eCallK (n k : Nat) (f : List D → List D → Res D) (fs fk : MA) : ME := fun e g => (fs e g).bind fun p => (fk e p.2).bind fun q => if p.1.length = n ∧ q.1.length = k then pureG (f p.1 q.1) q.2 else .stuck
structure CalD (P : Program) (w : World) (K : PySem.W.Frag) (mg : Str → Option Value) (base : Heap) (k : Nat) (x : Str) (st : Stmt) (dvs : List V) (kws : List (Str × V)) (f : Addr) (ps : List Str) (sp : Sp) : Prop where
  ex : ∃ fd, FnOk P w K mg base (L2N.CX P w) k f fd ps sp ∧ FunD K x x (defArgs st) (defBody st) (defScope st) dvs kws f fd
section
variable {C : Ctx} {a : Expr} {fa : ME} {pos p kpos : Pos} {x nx : Str} {es : List Expr} {fs fk : MA} {kws : List Keyword} {nm : Option Str} {k n : Nat} {f : Addr} {ps ks : List Str} {st : Stmt} {dvs msv : List V} {kd : List (Str × V)} {dd md : List D} {src : List Src} {m : List D → Res D}
theorem dk_nil : DK C [] aNil := pk_imp pk_nil fun σ H Q ⟨own, F, e, g, S, o⟩ => o H [] (.refl H) S .nil
theorem dk_cons (ha : DE C a fa) (hr : DK C kws fk) : DK C (⟨nm, a, kpos⟩ :: kws) (aCons fa fk) :=
  pk_imp (pk_cons ha hr) fun σ H Q ⟨own, F, e, g, S, o⟩ => ⟨own, F, e, g, S, OutA.bindE o fun d g1 H1 v x1 S1 r1 o1 => ⟨own, F, e, g1, S1, OutA.bindA o1 fun l g2 H2 vs x2 S2 r2 o2 => o2 H2 (v :: vs) (.refl H2) S2 (.cons (S1.rep x2 r1) r2)⟩⟩
theorem callK_red (hdd : ∀ H A, RepL C.g H A dd dvs) (hmd : ∀ H A, RepL C.g H A md msv) {σ : L2.St} {H : Hp} {Q : VK} (h : tD C (eCallK n ks.length (fun us ws => m (picks .non us ws dd md src)) fs fk) σ H Q) :
    tCallND n ks.length (spD C.g m) (fun vs zs => picks .non vs zs dvs msv src) (WE C.W) (tDA C fs) (tDA C fk) σ H Q := by
  obtain ⟨own, F, e, g, S, o⟩ := h
  refine ⟨own, F, e, g, S, OutE.bindA o fun l g1 H1 vs x1 S1 r1 o1 => ⟨own, F, e, g1, S1, OutE.bindA o1 fun l2 g2 H2 zs x2 S2 r2 o2 => ?_⟩⟩
  by_cases hl : l.length = n ∧ l2.length = ks.length
  · simp only [hl, and_self, if_true] at o2
    exact ⟨r1.length.symm.trans hl.1, r2.length.symm.trans hl.2, C.Al own, _, rep_picks (S1.repL x2 r1) r2 (hdd _ _) (hmd _ _) src, S2.tb, Al_tb, o2.toD S2⟩
  · simp only [hl, if_false] at o2
    exact o2.elim
theorem dCallN (FF : CalD C.X.prog C.X.w C.X.K C.X.mg C.X.base k nx st dvs kd f ps (spD C.g m)) (hr : Room k C.X.A) (tk : L2N.Takes C.X C.W) (hm : C.X.mg x = some (.ref f)) (hk : PySem.W.keepIn C.X.K (.ref f) = true)
    (hb : ∀ fd, FunD C.X.K nx nx (defArgs st) (defBody st) (defScope st) dvs kd f fd → KBs C.X.K fd ps n ks dvs msv src) (hdd : ∀ H A, RepL C.g H A dd dvs) (hmd : ∀ H A, RepL C.g H A md msv)
    (ha : DA C (a :: es) fs) (hkw : DK C kws fk) (hg : Gl C.X x := by rfl) (hall : (backToKw pos (keywordEach kws C.X.env)).all (·.1.isSome) = true := by rfl) (hks : (backToKw pos (keywordEach kws C.X.env)).filterMap (·.1) = ks := by rfl)
    (hdb : (x == ("__debug__" : Str)) = false := by decide) (he : starEach (a :: es) C.X.env = (false, eval a C.X.env) :: starEach es C.X.env := by rfl)
    (hpl : ((backTo pos (starEach (a :: es) C.X.env)).any (·.1) || (backToKw pos (keywordEach kws C.X.env)).any (·.1.isNone)) = false := by rfl) :
    DE C (.Call (.Name x p) (a :: es) kws pos) (eCallK n ks.length (fun us ws => m (picks .non us ws dd md src)) fs fk) := by
  obtain ⟨fd, F1, F2⟩ := FF
  obtain ⟨its, mv, hkb⟩ := hb fd F2
  exact pe_imp (pe_callND (E := WE C.W) F1 hr hg hm hk hkb (fun σ => L2N.passAt tk σ) ha hkw hall hks hdb he hpl) fun σ H Q h => callK_red hdd hmd h
theorem dCallN0 (FF : CalD C.X.prog C.X.w C.X.K C.X.mg C.X.base k nx st dvs kd f ps (spD C.g m)) (hr : Room k C.X.A) (tk : L2N.Takes C.X C.W) (hm : C.X.mg x = some (.ref f)) (hk : PySem.W.keepIn C.X.K (.ref f) = true)
    (hb : ∀ fd, FunD C.X.K nx nx (defArgs st) (defBody st) (defScope st) dvs kd f fd → KBs C.X.K fd ps 0 ks dvs msv src) (hdd : ∀ H A, RepL C.g H A dd dvs) (hmd : ∀ H A, RepL C.g H A md msv)
    (hkw : DK C kws fk) (hg : Gl C.X x := by rfl) (hall : (backToKw pos (keywordEach kws C.X.env)).all (·.1.isSome) = true := by rfl) (hks : (backToKw pos (keywordEach kws C.X.env)).filterMap (·.1) = ks := by rfl)
    (hdb : (x == ("__debug__" : Str)) = false := by decide) (hpl : ((backTo pos (starEach [] C.X.env)).any (·.1) || (backToKw pos (keywordEach kws C.X.env)).any (·.1.isNone)) = false := by rfl) :
    DE C (.Call (.Name x p) [] kws pos) (eCallK 0 ks.length (fun us ws => m (picks .non us ws dd md src)) aNil fk) := by
  obtain ⟨fd, F1, F2⟩ := FF
  obtain ⟨its, mv, hkb⟩ := hb fd F2
  refine pe_imp (pe_callND0 (E := WE C.W) F1 hr hg hm hk hkb (fun σ => L2N.passAt tk σ) hkw hall hks hdb hpl) fun σ H Q h => ?_
  obtain ⟨own, F, e, g, S, o⟩ := callK_red (n := 0) (fs := aNil) hdd hmd h
  exact o H [] (.refl H) S .nil
end
end DL
set_option Elab.async false
set_option linter.all false
set_option maxRecDepth 100000
namespace DL
open PySem PySem.Spec PyProof.Rows L2
section
variable {C : Ctx} {a b : Expr} {fa fb : ME} {fs : MA} {p pos kpos : Pos}
end
section
variable {C : Ctx} {a b : Expr} {fa fb : ME} {fs : MA} {p pos kpos : Pos}
end
section
variable {g : G} {H : Hp} {A : Addr → Prop}
end
section
variable {C : Ctx} {a b : Expr} {fa fb : ME} {fs : MA} {p pos : Pos}
end
end DL
set_option Elab.async false
set_option linter.all false
set_option maxRecDepth 100000
set_option maxHeartbeats 2000000
namespace DL
open PySem PySem.Spec PyProof.Rows L2
section
variable {C : Ctx}
end
end DL
set_option Elab.async false
set_option linter.all false
set_option maxRecDepth 100000
namespace DL
open PySem PySem.Spec PyProof.Rows L2
section
variable {g : G} {H : Hp} {A : Addr → Prop}
end
section
variable {C : Ctx} {x : Expr} {fa : ME} {cls f : Str} {Ca : Addr} {pos : Pos}
end
section
variable {X : Cx} {CX : CXT} {k n : Nat} {f Ca : Addr} {fd : FuncData} {ps ks : List Str} {sp : Sp} {E : L2.St → XK} {m : Str} {apos pos : Pos} {o e : Expr} {es : List Expr} {kws : List Keyword} {ta : TE} {t tk : TA} {g : List Value → List Value → List Value} {gV : List V → List V → List V}
end
section
variable {C : Ctx} {cls m nm qual : Str} {st : Stmt} {Ca f : Addr} {k n : Nat} {fa : ME} {fs fk : MA} {o a : Expr} {es : List Expr} {kws : List Keyword} {apos pos : Pos} {ps ks : List Str} {dvs msv : List V} {kd : List (Str × V)} {dd md : List D} {src : List Src} {mm : List D → Res D}
end
section
variable {P : Program} {w : World} {K : PySem.W.Frag} {mg : Str → Option Value} {base : Heap} {cm : Str → Option Addr} {tb : List (Addr × Str)}
end
section
variable {X : Cx} {CX : CXT} {k n : Nat} {f Ca : Addr} {fd : FuncData} {ps ks : List Str} {sp : Sp} {E : L2.St → XK} {x : Str} {p pos : Pos} {e : Expr} {es : List Expr} {kws : List Keyword} {t tk : TA} {g : List Value → List Value → List Value} {gV : List V → List V → List V}
end
section
variable {C : Ctx} {cls fld nm qual x : Str} {st : Stmt} {Ca f : Addr} {k n : Nat} {fs fk : MA} {a : Expr} {es : List Expr} {kws : List Keyword} {p pos : Pos} {ps ks : List Str} {dvs msv : List V} {kd : List (Str × V)} {dd md : List D} {src : List Src} {mm : List D → Res D}
end
end DL
set_option Elab.async false
set_option linter.all false
set_option maxRecDepth 100000
namespace DL
open PySem PySem.Spec PyProof.Rows L2
section
variable {C : Ctx} {own : Own} {H : Hp} {d b : D} {v : V} {ns : List Str} {cls : Str} {Ca : Addr}
end
section
variable {C : Ctx} {a : Expr} {fa : ME} {p pos : Pos} {ns : List Str} {cls : Str} {Ca : Addr}
end
section
variable {C : Ctx} {a b : Expr} {fa fb : ME} {pos : Pos} {ns : List Str} {cls nm qual : Str} {Ca f : Addr} {k : Nat} {st : Stmt} {dvs : List V} {kd : List (Str × V)} {ps : List Str} {mm : List D → Res D}
end
end DL
set_option Elab.async false
set_option linter.all false
set_option maxRecDepth 100000
namespace DL
open PySem PySem.Spec PyProof.Rows L2
section
variable {C : Ctx} {a b : Expr} {fs : MA} {p p2 pos pos2 : Pos}
end
end DL
set_option Elab.async false
set_option linter.all false
set_option maxRecDepth 100000
namespace DL
open PySem PySem.Spec PyProof.Rows L2
section
variable {C : Ctx} {x a b : Expr} {st : Stmt} {fa fb : ME} {f1 : MS} {pos : Pos}
theorem ds_frz (B : List Nat) (h : DS C st f1) : DS C st (sFrz B f1) := ps_imp h fun D σ H ⟨own, F, e, g, S, o⟩ => ⟨_, F, _, g, S.borrow B, o⟩
theorem RepL.reverse {g : G} {H : Hp} {A : Addr → Prop} : ∀ {l : List D} {vs : List V}, RepL g H A l vs → RepL g H A l.reverse vs.reverse
  | [], vs, h => by rw [h.toNil]; exact .nil
  | d :: l, vs, h => by
    obtain ⟨v, r, rfl, h1, h2⟩ := h.toCons
    rw [List.reverse_cons, List.reverse_cons]
    exact (RepL.reverse h2).append (.cons h1 .nil)
end
end DL
set_option Elab.async false
set_option linter.all false
set_option maxRecDepth 100000
namespace DL
open PySem PySem.Spec PyProof.Rows L2
def NewL (C : Ctx) (H : Hp) (d : D) (v : V) : Prop := ∃ l p vs, d = .lst l ∧ v = .ref p ∧ C.H0 p = none ∧ H p = some (.lst vs) ∧ RepL C.g H (fun a => C.AR a ∧ a ≠ p) l vs
def OutSF (C : Ctx) (F : Hp) (r : Res Out) (D : Ends) : Prop := match r with
  | .ok (.nx e' g') => ∀ own' σ' H', SR C own' F H' σ' e' g' → D.nx σ' H'
  | .ok (.bk e' g') => ∀ own' σ' H', SR C own' F H' σ' e' g' → D.bk σ' H'
  | .ok (.ct e' g') => ∀ own' σ' H', SR C own' F H' σ' e' g' → D.ct σ' H'
  | .ok (.rt d g') => ∀ own' σ' e' H' v, SR C own' F H' σ' e' g' → NewL C H' d v → D.rt v H'
  | .err x => ∀ own' σ' e' g' H' c dd, SR C own' F H' σ' e' g' → RepX C.g H' (C.Al own') x c dd → C.W c dd σ' H'
  | .stuck => False
def tDSF (C : Ctx) (f : MS) : TS := fun D σ H => ∃ own F e g, SR C own F H σ e g ∧ OutSF C F (f e g) D
def DSF (C : Ctx) (x : Stmt) (f : MS) : Prop := PS C.X x (tDSF C f)
def DSFs (C : Ctx) (x : List Stmt) (f : MS) : Prop := PSs C.X x (tDSF C f)
def sNoRt (f : MS) : MS := fun e g => match f e g with
  | .ok (.rt _ _) => .stuck
  | r => r
section
variable {C : Ctx} {x a b : Expr} {st : Stmt} {rest sts : List Stmt} {fa fb : ME} {f1 f2 : MS} {fl : MA} {pos : Pos}
theorem dsf_of (h : DS C st f1) : DSF C st (sNoRt f1) := ps_imp h fun D σ H ⟨own, F, e, g, S, o⟩ => ⟨own, F, e, g, S, by
  unfold sNoRt at o
  cases hf : f1 e g with
  | ok u =>
    rw [hf] at o
    cases u with
    | nx e' g' => exact o
    | rt d g' => exact o.elim
    | bk e' g' => exact o
    | ct e' g' => exact o
  | err y => rw [hf] at o; exact o
  | stuck => rw [hf] at o; exact o.elim⟩
theorem dsfs_cons (h1 : DSF C st f1) (h2 : DSFs C rest f2) : DSFs C (st :: rest) (sSeq f1 f2) := pss_imp (pss_cons h1 h2) fun D σ H ⟨own, F, e, g, S, o⟩ => ⟨own, F, e, g, S, by
  unfold sSeq at o
  cases hf : f1 e g with
  | ok u =>
    rw [hf] at o
    cases u with
    | nx e' g' => exact fun own' σ' H' S' => ⟨own', F, e', g', S', o⟩
    | rt d g' => exact o
    | bk e' g' => exact o
    | ct e' g' => exact o
  | err y => rw [hf] at o; exact o
  | stuck => rw [hf] at o; exact o.elim⟩
theorem dsfs_one (h1 : DSF C st f1) : DSFs C [st] f1 := pss_one h1
def sRetO (i : Nat) : MS := fun e g => match e[i]? with
  | some (.ow l) => .ok (.rt (.lst l) g)
  | _ => .stuck
theorem dsf_retO {i : Nat} (hv : PE C.X x (tVar i)) : DSF C (.Return (some x) pos) (sRetO i) := ps_imp (ps_ret hv) fun D σ H ⟨own, F, e, g, S, o⟩ => by
  unfold sRetO at o
  cases hs : e[i]? with
  | none => rw [hs] at o; exact o.elim
  | some s =>
    rw [hs] at o
    cases s <;> first | exact o.elim | skip
    rename_i l
    obtain ⟨p, vs, h1, h2, h3, h4⟩ := S.sl i _ hs
    obtain ⟨_, h5, _⟩ := S.on i p h1
    exact ⟨.ref p, h2, o _ _ _ _ _ S ⟨l, p, vs, rfl, rfl, h5, h3, h4.mono (.same fun _ _ z => z) fun a q _ => ⟨⟨q.1, q.2.2⟩, fun z => q.2.1 i (by rw [h1, z])⟩⟩⟩
end
def OutDF (g : G) (H : Hp) (A : Addr → Prop) (E : XK) (r : Res D) (Q : VK) : Prop := match r with
  | .ok (.lst l) => ∀ H' p vs, SameT g.tb H H' → Tabs g.tb H' → H p = none → H' p = some (.lst vs) → RepL g H' (fun a => (A a ∨ H a = none) ∧ a ≠ p) l vs → Q (.ref p) H'
  | .ok _ => False
  | .err x => ∀ H' c dd, SameT g.tb H H' → Tabs g.tb H' → RepX g H' (fun a => A a ∨ H a = none) x c dd → E c dd H'
  | .stuck => False
def spF (g : G) (m : List D → Res D) : Sp := fun vs H Q E => ∃ (A : Addr → Prop) (ds : List D), RepL g H A ds vs ∧ Tabs g.tb H ∧ (∀ a, A a → ∀ p ∈ g.tb, p.1 ≠ a) ∧ OutDF g H A E (m ds) Q
def onlyL (r : Res D) : Res D := match r with
  | .ok (.lst l) => .ok (.lst l)
  | .err x => .err x
  | _ => .stuck
def runF (n k : Nat) (b : MS) (ds : List D) : Res D := onlyL (runD n k b ds)
theorem runF_l {n k : Nat} {b : MS} {ds : List D} {d : D} (h : runF n k b ds = .ok d) : ∃ l, d = .lst l := by
  unfold runF at h
  cases hr : runD n k b ds with
  | ok d' => rw [hr] at h; cases d' <;> first | (cases h; done) | (cases h; exact ⟨_, rfl⟩)
  | err x => rw [hr] at h; cases h
  | stuck => rw [hr] at h; cases h
theorem spF_of {g : G} {m : List D → Res D} (hm : ∀ ds d, m ds = .ok d → ∃ l, d = .lst l) {vs : List V} {H : Hp} {Q : VK} {E : XK} (h : spD g m vs H Q E) : spF g m vs H Q E := by
  obtain ⟨A, ds, r, t, hA, o⟩ := h
  refine ⟨A, ds, r, t, hA, ?_⟩
  cases hr : m ds with
  | ok d =>
    obtain ⟨l, rfl⟩ := hm ds d hr
    rw [hr] at o
    exact fun H' p vs s t n hp r => o H' _ s t (.lst_ (.inr n) hp (r.mono (.same fun _ _ z => z) fun a q _ => q.1))
  | err x => rw [hr] at o; exact o
  | stuck => rw [hr] at o; exact o
section
variable {P : Program} {w : World} {K : PySem.W.Frag} {mg : Str → Option Value} {base : Heap} {cm : Str → Option Addr} {tb : List (Addr × Str)}
theorem CalD.ofF {k : Nat} {x : Str} {st : Stmt} {dvs : List V} {kws : List (Str × V)} {f : Addr} {ps : List Str} {g : G} {m : List D → Res D} (h : CalD P w K mg base k x st dvs kws f ps (spF g m)) (hm : ∀ ds d, m ds = .ok d → ∃ l, d = .lst l) : CalD P w K mg base k x st dvs kws f ps (spD g m) := by
  obtain ⟨fd, F1, F2⟩ := h
  exact ⟨fd, F1.imp fun vs H Q E => spF_of hm, F2⟩
theorem fn_spF {x qual : Str} {st : Stmt} {dvs : List V} {kws : List (Str × V)} {f : Addr} {fd : FuncData} {N ps : List Str} {k : Nat} (F : FunD K x qual (defArgs st) (defBody st) (defScope st) dvs kws f fd) (S : FnScope N ps (defScope st)) (b : MS)
    (body : ∀ (cdv : Value) (A : Around) (outer : List PySem.Env) (s : Shared) (H : Hp) (E : XK) (A0 : Addr → Prop), Room k (A.deeper (envOfC qual (defScope st) s.heap.objs.size f cdv)) → DSFs (ctxD P w K mg base cm tb N qual (defScope st) f cdv A outer s H E A0 none) (defBody st) b) :
    FnOk P w K mg base (L2N.CX P w) (k + 1) f fd ps (spF ⟨K, cm, tb⟩ (runF N.length ps.length b)) := by
  have len : ∀ vs H Q E, spF ⟨K, cm, tb⟩ (runF N.length ps.length b) vs H Q E → vs.length = ps.length := fun vs H Q E ⟨A0, ds, r, _, _, o⟩ => by
    unfold runF runD at o
    split at o
    · rename_i h; rw [← r.length]; exact h
    · exact o.elim
  refine F.ok S len fun cdv A outer s H vs Q E hr h => ?_
  have hlen := len vs H Q E h
  obtain ⟨A0, ds, r, tt, hA, o⟩ := id h
  refine ⟨_, body cdv A outer s H E A0 hr, ?_⟩
  have hd : ds.length = ps.length := by rw [r.length, hlen]
  unfold runF runD at o
  rw [if_pos hd] at o
  let C : Ctx := ctxD P w K mg base cm tb N qual (defScope st) f cdv A outer s H E A0 none
  have S0 : SR C (fun _ => none) (fun _ => none) H (L2.start N vs) (env0 N.length ds) g0 := sr_start (C := C) (by rw [hlen]; exact pre_le S) r tt hA rfl rfl
  have nio : ∀ a, C.io a → ∃ p ∈ tb, p.1 = a := fun a h => Ctx.io_no rfl rfl h
  have kp : ∀ {own' : Own} {F' H' : Hp} {σ' : L2.St} {e' : En} {g' : Rng}, SR C own' F' H' σ' e' g' → SameT tb H H' := fun S' a ob z n => S'.h0 a ob z fun hi => by
    obtain ⟨p, hp, e⟩ := nio a hi
    exact n p hp e
  refine ⟨fun _ => none, fun _ => none, env0 N.length ds, g0, S0, ?_⟩
  show OutSF C _ (b (env0 N.length ds) g0) _
  cases hb : b (env0 N.length ds) g0 with
  | ok u =>
    rw [hb] at o
    cases u with
    | nx e g => exact o.elim
    | rt d g =>
      cases d <;> first | exact o.elim | skip
      intro own' σ' e' H' v S' ⟨l, p, vs', e1, e2, h0, hp, r'⟩
      cases e1
      rw [e2]
      exact o H' p vs' (kp S') S'.tb h0 hp (r'.mono (.same fun _ _ z => z) fun a q _ => ⟨q.1.1, q.2⟩)
    | bk e g => exact o.elim
    | ct e g => exact o.elim
  | err y =>
    rw [hb] at o
    exact fun own' σ' e' g' H' c dd S' ⟨Ca, d, ws, h1, h2, h3, h4, h5, h6⟩ => o H' c dd (kp S') S'.tb ⟨Ca, d, ws, h1, h2, h3, h4, h5, h6.mono (.same fun _ _ z => z) fun a q _ => q.1⟩
  | stuck => rw [hb] at o; exact o.elim
end
section
variable {C : Ctx} {a : Expr} {es : List Expr} {fs : MA} {n : Str} {k : Nat} {f : Addr} {fd : FuncData} {ps : List Str} {p pos : Pos}
end
end DL
set_option Elab.async false
set_option linter.all false
set_option maxRecDepth 100000
namespace DL
open PySem PySem.Spec PyProof.Rows L2
section
variable {P : Program} {w : World} {K : PySem.W.Frag} {mg : Str → Option Value} {base : Heap} {cm : Str → Option Addr} {tb : List (Addr × Str)}
end
section
variable {C : Ctx} {a y : Expr} {es : List Expr} {fs : MA} {fa : ME} {n : Str} {i k : Nat} {f : Addr} {fd : FuncData} {ps : List Str} {p pos : Pos}
end
def borF (B : List Nat) (f : MA) : MA := fun e g => match f (borrow B e) g with
  | .ok p => if D.noLstL p.1 = true then .ok p else .stuck
  | .err x => if D.noLstL x.l = true then .err x else .stuck
  | .stuck => .stuck
theorem df_bor {C : Ctx} {x : Expr} {f : MA} (B : List Nat) (h : DF C x f) : DF C x (borF B f) := pe_imp h fun σ H Q ⟨own, F, e, g, S, o⟩ => ⟨offB B own, F, borrow B e, g, S.borrow B, by
  unfold borF at o
  cases hf : f (borrow B e) g with
  | ok p =>
    obtain ⟨d, g'⟩ := p
    rw [hf] at o
    by_cases hd : D.noLstL d = true
    · simp only [hd, if_true] at o
      exact fun H' p vs x n hp S' r => o H' p vs x n hp (S.back x S') (r.any hd)
    · simp only [hd, if_false] at o; exact o.elim
  | err y =>
    rw [hf] at o
    by_cases hd : D.noLstL y.l = true
    · simp only [hd, if_true] at o
      exact fun H' c dd x ⟨g', S'⟩ ⟨Ca, d, vs, h1, h2, h3, h4, h5, h6⟩ => o H' c dd x ⟨g', S.back x S'⟩ ⟨Ca, d, vs, h1, h2, h3, h4, h5, h6.any hd⟩
    · simp only [hd, if_false] at o; exact o.elim
  | stuck => rw [hf] at o; exact o.elim⟩
end DL
set_option Elab.async false
set_option linter.all false
set_option maxRecDepth 100000
namespace DL
open PySem PySem.Spec PyProof.Rows L2
section
variable {C : Ctx} {cls m nm qual : Str} {st : Stmt} {Ca f : Addr} {k n : Nat} {fa : ME} {fs fk : MA} {o a : Expr} {es : List Expr} {kws : List Keyword} {apos pos : Pos} {ps ks : List Str} {dvs msv : List V} {kd : List (Str × V)} {dd md : List D} {src : List Src} {mm : List D → Res D}
end
section
variable {X : Cx} {CX : CXT} {k n : Nat} {f Ca : Addr} {fd : FuncData} {ps ks : List Str} {sp : Sp} {E : L2.St → XK} {m : Str} {apos pos : Pos} {o e : Expr} {kws : List Keyword} {ta : TE} {t tk : TA} {g : List Value → List Value → List Value} {gV : List V → List V → List V}
end
section
variable {C : Ctx} {cls m nm qual : Str} {st : Stmt} {Ca f : Addr} {k n : Nat} {fa : ME} {fs fk : MA} {o a : Expr} {es : List Expr} {kws : List Keyword} {apos pos : Pos} {ps ks : List Str} {dvs msv : List V} {kd : List (Str × V)} {dd md : List D} {src : List Src} {mm : List D → Res D}
end
end DL
set_option Elab.async false
set_option linter.all false
set_option maxRecDepth 100000
namespace DL
open PySem PySem.Spec PyProof.Rows L2
section
variable {C : Ctx} {a b : Expr} {fa fb : ME} {fs : MA} {p pos : Pos}
end
end DL
namespace DL
open PySem PySem.Spec PyProof.Rows L2
section
variable {C : Ctx} {pos : Pos} {keys : List (Option Expr)} {values : List Expr} {fs : List (ME × ME)}
end
end DL
set_option Elab.async false
set_option linter.all false
set_option maxRecDepth 100000
set_option maxHeartbeats 2000000
namespace DL
open PySem PySem.Spec PyProof.Rows L2
def Sq : Bool → Heap → Addr → Array Value → Prop
  | true, h, m, xs => h.IsTuple m xs
  | false, h, m, xs => h.IsList m xs
def SqI : Bool → Heap → Addr → Addr → Nat → Prop
  | true, h, i, m, k => h.IsTupleIter i m k
  | false, h, i, m, k => h.IsListIter i m k
def SqV : Bool → PySem.W.Frag → Hp → Addr → List V → Prop
  | true, K, H, a, xs => SqT K H a xs
  | false, K, H, a, xs => SqL K H a xs
theorem Sq.at {b : Bool} {h h' : Heap} {m : Addr} {xs : Array Value} (x : Sq b h m xs) (e : ∀ o, h.get? m = some o → h'.get? m = some o) : Sq b h' m xs := by
  cases b
  · exact Heap.IsList.at x e
  · exact Heap.IsTuple.at x e
theorem SqI.at {b : Bool} {h h' : Heap} {i m : Addr} {k : Nat} (x : SqI b h i m k) (e : ∀ o, h.get? i = some o → h'.get? i = some o) : SqI b h' i m k := by
  cases b
  · exact Heap.IsListIter.at x e
  · exact Heap.IsTupleIter.at x e
theorem SqI.obj {b : Bool} {h : Heap} {i m : Addr} {k : Nat} (x : SqI b h i m k) : ∃ o vs, h.get? i = some o ∧ o.data = .fields vs := by
  cases b
  · obtain ⟨o, e, _, d⟩ := x; exact ⟨o, _, e, d⟩
  · obtain ⟨o, e, _, d⟩ := x; exact ⟨o, _, e, d⟩
theorem SqI.lt {b : Bool} {h : Heap} {i m : Addr} {k : Nat} (x : SqI b h i m k) : i < h.objs.size := by
  obtain ⟨o, _, e, _⟩ := x.obj
  exact Heap.lt_size e
def sqObj : Bool → Addr → Obj
  | true, m => { cls := .type "tuple_iterator", data := .fields #[.ref m, .int 0 0] }
  | false, m => { cls := .type "list_iterator", data := .fields #[.ref m, .int 0 0] }
theorem begins_sq (b : Bool) (l : Addr) (items : Array Value) : Begins (.ref l) (sqObj b l) fun h => Sq b h l items := by
  cases b
  · exact begins_list l items
  · exact begins_tuple l items
theorem SqI.of {b : Bool} {h : Heap} {i m : Addr} (e : h.get? i = some (sqObj b m)) : SqI b h i m 0 := by
  cases b
  · exact ⟨_, e, rfl, rfl⟩
  · exact ⟨_, e, rfl, rfl⟩
theorem nextOf_sq_item {prog : Program} {w : World} {A : Around} {E : Value → Shared → Prop} {s : Shared} {b : Bool} {it l : Addr} {i : Nat} {items : Array Value} {x : Value} {Q : Value → Shared → Prop} (hit : SqI b s.heap it l i) (hl : Sq b s.heap l items) (hx : items[i]? = some x)
    (hQ : ∀ h', SqI b h' it l (i + 1) → Heap.SameBut it s.heap h' → Q x { s with heap := h' }) : wpAny (model prog w) A (Builtin.SmallTypes.nextOf (.ref it)) Q E s := by
  cases b
  · exact wpAny_nextOf_list_item hit hl hx hQ
  · exact wpAny_nextOf_tuple_item hit hl hx hQ
theorem nextOf_sq_end {prog : Program} {w : World} {A : Around} {E : Value → Shared → Prop} {s : Shared} {b : Bool} {it l : Addr} {i : Nat} {items : Array Value} {Q : Value → Shared → Prop} (hh : A.handled = none) (hit : SqI b s.heap it l i) (hl : Sq b s.heap l items) (hx : items[i]? = none)
    (hE : ∀ h' e, Heap.ExtBut it s.heap h' → (∃ o, h'.get? e = some o ∧ o.cls = .type "StopIteration") → E (.ref e) { s with heap := h' }) : wpAny (model prog w) A (Builtin.SmallTypes.nextOf (.ref it)) Q E s := by
  cases b
  · exact wpAny_nextOf_list_end hh hit hl hx hE
  · exact wpAny_nextOf_tuple_end hh hit hl hx hE
theorem Sq.extBut {b : Bool} {h h' : Heap} {m c : Addr} {xs : Array Value} (x : Sq b h m xs) (hs : Heap.ExtBut c h h') (n : m ≠ c) : Sq b h' m xs := x.at fun o e => hs _ _ n e
theorem SqI.extBut {b : Bool} {h h' : Heap} {i m c : Addr} {k : Nat} (x : SqI b h i m k) (hs : Heap.ExtBut c h h') (n : i ≠ c) : SqI b h' i m k := x.at fun o e => hs _ _ n e
theorem inv_sq {X : Cx} {pins : List (Addr × Obj)} {σ : L2.St} {H : Hp} {s : Shared} {b : Bool} {a : Addr} {xs : List V} (I : Inv X pins σ H s) (h : SqV b X.K H a xs) : ∃ its : List Value, Vals xs its ∧ Sq b s.heap a its.toArray ∧ a < s.heap.objs.size := by
  cases b
  · obtain ⟨its, rv, p, _⟩ := I.list h
    exact ⟨its, rv, p.isList, p.lt⟩
  · obtain ⟨its, rv, p, _⟩ := I.tuple h
    exact ⟨its, rv, p, p.lt⟩
theorem inv_sq_inj {X : Cx} {pins : List (Addr × Obj)} {σ : L2.St} {H : Hp} {s : Shared} {b : Bool} {a : Addr} {xs ys : List V} (I : Inv X pins σ H s) (h : SqV b X.K H a xs) (h' : SqV b X.K H a ys) : xs = ys := by
  cases b
  · exact I.list_inj h h'
  · exact I.tuple_inj h h'
section
variable {C : Ctx} {a b c tg : Expr}
end
end DL
set_option Elab.async false
set_option linter.all false
set_option maxRecDepth 100000
namespace DL
open PySem PySem.Spec PyProof.Rows L2
section
variable {prog : Program} {w : World} {A : Around} {E : Value → Shared → Prop} {s : Shared}
theorem zip_next_any_held {bb : Bool} {z TI TO T i1 i2 l1 : Addr} {f : Bool} {oT : Obj} {k1 : Nat} {xs : Array Value} {x y : Value} {Q : Value → Shared → Prop} (i1z : i1 ≠ z) (l1z : l1 ≠ z)
    (hz : IsZipHeld s.heap z TI TO T f) (hT : s.heap.get? T = some oT) (hTI : IsPair s.heap TI (.ref i1) (.ref i2))
    (h1 : SqI bb s.heap i1 l1 k1) (hl1 : Sq bb s.heap l1 xs) (hx : xs[k1]? = some x)
    (h2 : ∀ h₂, IsZipHeld h₂ z TI TO T true → SqI bb h₂ i1 l1 (k1 + 1) → h₂.objs.size = s.heap.objs.size → (∀ c o, c ≠ z → c ≠ i1 → s.heap.get? c = some o → h₂.get? c = some o) →
      wpAny (model prog w) A (Builtin.SmallTypes.nextOf (.ref i2)) (fun y s3 => ∃ h₃, s3 = { s with heap := h₃ } ∧ ∀ h', (∀ c o, h₃.get? c = some o → h'.get? c = some o) → IsPair h' h₃.objs.size x y → h'.objs.size = h₃.objs.size + 1 → Q (.ref h₃.objs.size) { s with heap := h' }) E { s with heap := h₂ }) :
    wpAny (model prog w) A (Builtin.«zip.__next__» ⟨[.ref z], []⟩) (fun fin s' => ∃ v, fin = .done (.ret v) ∧ Q v s') E s := by
  show wpAny _ _ (field (.ref z) 2 >>= _) _ _ _
  refine wpAny_bind (wpAny_field hz rfl (x := .bool false) rfl ?_)
  show wpAny _ _ (field (.ref z) 3 >>= _) _ _ _
  refine wpAny_bind (wpAny_field hz rfl (x := .ref TI) rfl ?_)
  refine wpAny_bind (wpAny_seqItems hTI rfl ?_)
  show wpAny _ _ (Builtin.SmallTypes.ownedTupleIsFree (.ref z) >>= _) _ _ _
  refine wpAny_bind (wpAny_tupleHeld_zip hz hT fun h₁ hz₁ hs₁ => ?_)
  simp only [Bool.false_eq_true, if_false]
  refine wpAny_bind ?_
  rw [← Array.forIn_toList]
  simp only [List.forIn_cons, List.forIn_nil]
  refine wpAny_bind (wpAny_bind (wpAny_holding ?_))
  show wpAny _ _ (Builtin.SmallTypes.nextOf (.ref i1) >>= _) _ _ _
  refine wpAny_bind (nextOf_sq_item (s := { s with heap := h₁ }) (h1.at fun o e => hs₁.extBut _ o i1z e) (hl1.at fun o e => hs₁.extBut _ o l1z e) hx fun h₂ h1₂ hs₂ => wpAny_pure ?_)
  refine wpAny_pure ?_
  refine wpAny_bind (wpAny_bind (wpAny_holding ?_))
  show wpAny _ _ (Builtin.SmallTypes.nextOf (.ref i2) >>= _) _ _ _
  refine wpAny_bind (wpAny_mono (h2 h₂ (hs₂.extBut _ _ i1z.symm hz₁) h1₂ (by rw [hs₂.1, hs₁.1]) fun c o c1 c2 e => hs₂.extBut _ _ c2 (hs₁.extBut _ _ c1 e)) (fun y s3 ⟨h₃, e3, q⟩ => ?_) fun _ _ h => h)
  subst e3
  refine wpAny_pure (wpAny_pure (wpAny_pure ?_))
  show wpAny _ _ (newTuple [x, y] >>= _) _ _ _
  refine wpAny_bind (wpAny_newTuple ?_)
  refine wpAny_pure ⟨_, rfl, ?_⟩
  exact q _ (fun c o e => Heap.get?_push_of_some _ e) (Heap.get?_push_size _ rfl) (Heap.size_push ..)
theorem zip_next_any {bb : Bool} {z TI TO i1 i2 l1 : Addr} {k1 : Nat} {xs : Array Value} {x a b : Value} {Q : Value → Shared → Prop} (i1z : i1 ≠ z) (l1z : l1 ≠ z) (TOz : TO ≠ z) (TOi1 : TO ≠ i1)
    (hz : IsZip s.heap z TI TO .none) (hTI : IsPair s.heap TI (.ref i1) (.ref i2)) (hTO : IsPair s.heap TO a b)
    (h1 : SqI bb s.heap i1 l1 k1) (hl1 : Sq bb s.heap l1 xs) (hx : xs[k1]? = some x)
    (h2 : ∀ (E' : Value → Shared → Prop) h₂, IsZip h₂ z TI TO .ellipsis → IsPair h₂ TO x b → SqI bb h₂ i1 l1 (k1 + 1) → h₂.objs.size = s.heap.objs.size → (∀ c o, c ≠ z → c ≠ TO → c ≠ i1 → s.heap.get? c = some o → h₂.get? c = some o) →
      wpAny (model prog w) A (Builtin.SmallTypes.nextOf (.ref i2)) (fun y s3 => ∃ h₃, s3 = { s with heap := h₃ } ∧ IsZip h₃ z TI TO .ellipsis ∧ IsPair h₃ TO x b ∧
        ∀ h', (∀ c o, c ≠ z → c ≠ TO → h₃.get? c = some o → h'.get? c = some o) → IsZip h' z TI TO (rawInt h₃.objs.size) → IsPair h' TO x y → IsPair h' h₃.objs.size x y → h'.objs.size = h₃.objs.size + 1 → Q (.ref h₃.objs.size) { s with heap := h' }) E' { s with heap := h₂ }) :
    wpAny (model prog w) A (Builtin.«zip.__next__» ⟨[.ref z], []⟩) (fun fin s' => ∃ v, fin = .done (.ret v) ∧ Q v s') E s := by
  show wpAny _ _ (field (.ref z) 2 >>= _) _ _ _
  refine wpAny_bind (wpAny_field hz rfl (x := .bool false) rfl ?_)
  show wpAny _ _ (field (.ref z) 3 >>= _) _ _ _
  refine wpAny_bind (wpAny_field hz rfl (x := .ref TI) rfl ?_)
  refine wpAny_bind (wpAny_seqItems hTI rfl ?_)
  show wpAny _ _ (Builtin.SmallTypes.ownedTupleIsFree (.ref z) >>= _) _ _ _
  refine wpAny_bind ?_
  unfold Builtin.SmallTypes.ownedTupleIsFree
  refine wpAny_bind (wpAny_field hz rfl (x := .none) rfl (wpAny_pure ?_))
  simp only [if_true]
  refine wpAny_bind (wpAny_rule ?_)
  refine wpAny_bind (wpAny_field hz rfl (x := .ref TO) rfl ?_)
  refine wpAny_bind (wpAny_setField_rec hz (by simp) fun h₁ hz₁ hs₁ => ?_)
  replace hz₁ : IsZip h₁ z TI TO .ellipsis := hz₁
  refine wpAny_bind ?_
  simp only [List.zipIdx_cons, List.zipIdx_nil, List.forIn_cons, List.forIn_nil]
  refine wpAny_bind (wpAny_bind (wpAny_onRaise ?_))
  show wpAny _ _ (Builtin.SmallTypes.nextOf (.ref i1) >>= _) _ _ _
  refine wpAny_bind (nextOf_sq_item (h1.at fun o e => hs₁.extBut _ o i1z e) (hl1.at fun o e => hs₁.extBut _ o l1z e) hx fun h₂ h1₂ hs₂ => wpAny_pure ?_)
  have hTO₂ : IsPair h₂ TO a b := hs₂.extBut _ _ TOi1 (hs₁.extBut _ _ TOz hTO)
  refine wpAny_bind (wpAny_seqItems hTO₂ rfl ?_)
  refine wpAny_bind (wpAny_updateSeq_pair hTO₂ fun h₃ hTO₃ hs₃ => ?_)
  replace hTO₃ : IsPair h₃ TO x b := hTO₃
  refine wpAny_bind (wpAny_letGo (wpAny_pure ?_))
  refine wpAny_bind (wpAny_bind (wpAny_onRaise ?_))
  show wpAny _ _ (Builtin.SmallTypes.nextOf (.ref i2) >>= _) _ _ _
  refine wpAny_bind (wpAny_mono (h2 _ h₃ (hs₃.extBut _ _ TOz.symm (hs₂.extBut _ _ i1z.symm hz₁)) hTO₃ (h1₂.at fun o e => hs₃.extBut _ o TOi1.symm e) (by rw [hs₃.1, hs₂.1, hs₁.1]) fun c o c1 c2 c3 e => hs₃.extBut _ _ c2 (hs₂.extBut _ _ c3 (hs₁.extBut _ _ c1 e))) (fun y s3 ⟨h₄, e3, hz₄, hTO₄, q⟩ => ?_) fun _ _ h => h)
  subst e3
  refine wpAny_pure ?_
  refine wpAny_bind (wpAny_seqItems hTO₄ rfl ?_)
  refine wpAny_bind (wpAny_updateSeq_pair hTO₄ fun h₅ hTO₅ hs₅ => ?_)
  replace hTO₅ : IsPair h₅ TO x y := hTO₅
  refine wpAny_bind (wpAny_letGo (wpAny_pure (wpAny_pure ?_)))
  refine wpAny_bind (wpAny_seqItems hTO₅ rfl ?_)
  refine wpAny_bind (wpAny_newTuple ?_)
  have hsz : h₅.objs.size = h₄.objs.size := hs₅.1
  have hz₅ : IsZip h₅ z TI TO .ellipsis := hs₅.extBut _ _ TOz.symm hz₄
  have hzlt : z < h₅.objs.size := Heap.lt_size hz₅
  show wpAny _ _ (Builtin.SmallTypes.ownedTupleHandOut (.ref z) (.ref h₅.objs.size) >>= _) _ _ _
  refine wpAny_bind ?_
  unfold Builtin.SmallTypes.ownedTupleHandOut
  have hz₆ : IsZip (h₅.push { cls := .type "tuple", data := .seq #[x, y] }) z TI TO .ellipsis := Heap.get?_push_of_some _ hz₅
  refine wpAny_bind (wpAny_setField_rec hz₆ (by simp) fun h₇ hz₇ hs₇ => ?_)
  replace hz₇ : IsZip h₇ z TI TO (rawInt h₅.objs.size) := hz₇
  refine wpAny_setField_rec hz₇ (by simp) fun h₈ hz₈ hs₈ => ?_
  replace hz₈ : IsZip h₈ z TI TO (rawInt h₅.objs.size) := hz₈
  have up : ∀ c o, c ≠ z → h₅.get? c = some o → h₈.get? c = some o := fun c o c1 e => hs₈.extBut _ _ c1 (hs₇.extBut _ _ c1 (Heap.get?_push_of_some _ e))
  have hT₈ : IsPair h₈ h₅.objs.size x y := hs₈.extBut _ _ (Nat.ne_of_gt hzlt) (hs₇.extBut _ _ (Nat.ne_of_gt hzlt) (Heap.get?_push_size _ rfl))
  have hz8 : h₈.objs.size = h₅.objs.size + 1 := by rw [hs₈.1, hs₇.1, Heap.size_push]
  refine wpAny_pure ⟨_, rfl, ?_⟩
  show Q (.ref h₅.objs.size) _
  rw [hsz] at hz₈ hT₈ hz8 ⊢
  exact q h₈ (fun c o c1 c2 e => up c o c1 (hs₅.extBut _ _ c2 e)) hz₈ (up _ _ TOz hTO₅) hT₈ hz8
theorem nextOf_zz_held {b1 b2 : Bool} {z TI TO T i1 i2 l1 l2 : Addr} {f : Bool} {oT : Obj} {k1 k2 : Nat} {xs ys : Array Value} {x y : Value} {Q : Value → Shared → Prop} (D : ZipApart z TI TO i1 i2 l1 l2)
    (hz : IsZipHeld s.heap z TI TO T f) (hT : s.heap.get? T = some oT) (hTI : IsPair s.heap TI (.ref i1) (.ref i2))
    (h1 : SqI b1 s.heap i1 l1 k1) (h2 : SqI b2 s.heap i2 l2 k2) (hl1 : Sq b1 s.heap l1 xs) (hl2 : Sq b2 s.heap l2 ys) (hx : xs[k1]? = some x) (hy : ys[k2]? = some y)
    (hQ : ∀ h', IsZipHeld h' z TI TO T true → SqI b1 h' i1 l1 (k1 + 1) → SqI b2 h' i2 l2 (k2 + 1) → IsPair h' s.heap.objs.size x y → h'.objs.size = s.heap.objs.size + 1 →
      (∀ c o, c ≠ z → c ≠ i1 → c ≠ i2 → s.heap.get? c = some o → h'.get? c = some o) → Q (.ref s.heap.objs.size) { s with heap := h' }) :
    wpAny (model prog w) A (Builtin.SmallTypes.nextOf (.ref z)) Q E s := by
  have hTy : s.TypeIs (.ref z) "zip" := ⟨_, hz, rfl⟩
  unfold Builtin.SmallTypes.nextOf
  refine wpAny_bind (wpAny_callSpecial?_slot (name := Str.ofString "__next__") hTy F.slot_zip_next
    (wpAny_call_entry F.slot_zip_next hTy F.entry_zip_next
      (zip_next_any_held D.i1z D.l1z hz hT hTI h1 hl1 hx (y := y) fun h₂ a1 a2 a3 a4 => ?_) (F.args_zip_next_1 _)))
  refine nextOf_sq_item (s := { s with heap := h₂ }) (h2.at fun o e => a4 _ o D.i2z D.i12.symm e) (hl2.at fun o e => a4 _ o D.l2z D.l2i1 e) hy fun h₃ b1 b2 => ⟨h₃, rfl, fun h' c1 c2 c3 => ?_⟩
  have e3 : h₃.objs.size = s.heap.objs.size := b2.1.trans a3
  have b2 : Heap.SameBut i2 h₂ h₃ := b2
  rw [e3] at c2 c3 ⊢
  exact wpAny_pure (hQ h' (c1 _ _ (b2.extBut _ _ D.i2z.symm a1)) ((a2.at fun o e => b2.extBut _ o D.i12 e).at fun o e => c1 _ o e) (b1.at fun o e => c1 _ o e) c2 c3 fun c o n1 n2 n3 e => c1 _ _ (b2.extBut _ _ n3 (a4 _ _ n1 n2 e)))
theorem nextOf_zz_item {b1 b2 : Bool} {z TI TO i1 i2 l1 l2 : Addr} {k1 k2 : Nat} {xs ys : Array Value} {x y a b : Value} {Q : Value → Shared → Prop} (D : ZipApart z TI TO i1 i2 l1 l2)
    (hz : IsZip s.heap z TI TO .none) (hTI : IsPair s.heap TI (.ref i1) (.ref i2)) (hTO : IsPair s.heap TO a b)
    (h1 : SqI b1 s.heap i1 l1 k1) (h2 : SqI b2 s.heap i2 l2 k2) (hl1 : Sq b1 s.heap l1 xs) (hl2 : Sq b2 s.heap l2 ys) (hx : xs[k1]? = some x) (hy : ys[k2]? = some y)
    (hQ : ∀ h', IsZip h' z TI TO (rawInt s.heap.objs.size) → (∃ p q, IsPair h' TO p q) → SqI b1 h' i1 l1 (k1 + 1) → SqI b2 h' i2 l2 (k2 + 1) → IsPair h' s.heap.objs.size x y → h'.objs.size = s.heap.objs.size + 1 →
      (∀ c o, c ≠ z → c ≠ TO → c ≠ i1 → c ≠ i2 → s.heap.get? c = some o → h'.get? c = some o) → Q (.ref s.heap.objs.size) { s with heap := h' }) :
    wpAny (model prog w) A (Builtin.SmallTypes.nextOf (.ref z)) Q E s := by
  have hTy : s.TypeIs (.ref z) "zip" := ⟨_, hz, rfl⟩
  unfold Builtin.SmallTypes.nextOf
  refine wpAny_bind (wpAny_callSpecial?_slot (name := Str.ofString "__next__") hTy F.slot_zip_next
    (wpAny_call_entry F.slot_zip_next hTy F.entry_zip_next
      (zip_next_any D.i1z D.l1z D.TOz D.TOi1 hz hTI hTO h1 hl1 hx fun E' h₂ a1 a1' a2 a3 a4 => ?_) (F.args_zip_next_1 _)))
  refine nextOf_sq_item (s := { s with heap := h₂ }) (h2.at fun o e => a4 _ o D.i2z D.TOi2.symm D.i12.symm e) (hl2.at fun o e => a4 _ o D.l2z D.l2TO D.l2i1 e) hy fun h₃ b1 b2 => ?_
  have b2 : Heap.SameBut i2 h₂ h₃ := b2
  refine ⟨h₃, rfl, b2.extBut _ _ D.i2z.symm a1, b2.extBut _ _ D.TOi2 a1', fun h' c1 c0 ct c2 c3 => ?_⟩
  have e3 : h₃.objs.size = s.heap.objs.size := b2.1.trans a3
  rw [e3] at c0 c2 c3 ⊢
  exact wpAny_pure (hQ h' c0 ⟨_, _, ct⟩ ((a2.at fun o e => b2.extBut _ o D.i12 e).at fun o e => c1 _ o D.i1z D.TOi1.symm e) (b1.at fun o e => c1 _ o D.i2z D.TOi2.symm e) c2 c3 fun c o n1 n2 n3 n4 e => c1 _ _ n1 n2 (b2.extBut _ _ n4 (a4 _ _ n1 n2 n3 e)))
theorem zip_end_first_held {z TI TO T i1 l1 : Addr} {it2 : Value} {f : Bool} {oT : Obj} {k1 : Nat} {xs : Array Value} {Q : Fin → Shared → Prop} (hh : A.handled = none) (i1z : i1 ≠ z) (l1z : l1 ≠ z)
    (hz : IsZipHeld s.heap z TI TO T f) (hT : s.heap.get? T = some oT) (hTI : IsPair s.heap TI (.ref i1) it2) (h1 : s.heap.IsListIter i1 l1 k1) (hl1 : s.heap.IsList l1 xs) (hx : xs[k1]? = none)
    (hE : ∀ h' e, (∀ c o, c ≠ z → c ≠ i1 → s.heap.get? c = some o → h'.get? c = some o) → (∃ o, h'.get? e = some o ∧ o.cls = .type "StopIteration") → E (.ref e) { s with heap := h' }) :
    wpAny (model prog w) A (Builtin.«zip.__next__» ⟨[.ref z], []⟩) Q E s := by
  show wpAny _ _ (field (.ref z) 2 >>= _) _ _ _
  refine wpAny_bind (wpAny_field hz rfl (x := .bool false) rfl ?_)
  show wpAny _ _ (field (.ref z) 3 >>= _) _ _ _
  refine wpAny_bind (wpAny_field hz rfl (x := .ref TI) rfl ?_)
  refine wpAny_bind (wpAny_seqItems hTI rfl ?_)
  show wpAny _ _ (Builtin.SmallTypes.ownedTupleIsFree (.ref z) >>= _) _ _ _
  refine wpAny_bind (wpAny_tupleHeld_zip hz hT fun h₁ hz₁ hs₁ => ?_)
  simp only [Bool.false_eq_true, if_false]
  refine wpAny_bind ?_
  rw [← Array.forIn_toList]
  simp only [List.forIn_cons, List.forIn_nil]
  refine wpAny_bind (wpAny_bind (wpAny_holding ?_))
  show wpAny _ _ (Builtin.SmallTypes.nextOf (.ref i1) >>= _) _ _ _
  refine wpAny_bind (wpAny_nextOf_list_end (s := { s with heap := h₁ }) hh (h1.extBut hs₁.extBut i1z) (hl1.extBut hs₁.extBut l1z) hx fun h₂ e hs₂ he => ?_)
  exact hE h₂ e (fun c o c1 c2 x => hs₂ _ _ c2 (hs₁.extBut _ _ c1 x)) he
theorem zip_end_first {z TI TO i1 l1 : Addr} {it2 : Value} {k1 : Nat} {xs : Array Value} {Q : Fin → Shared → Prop} (hh : A.handled = none) (i1z : i1 ≠ z) (l1z : l1 ≠ z)
    (hz : IsZip s.heap z TI TO .none) (hTI : IsPair s.heap TI (.ref i1) it2) (h1 : s.heap.IsListIter i1 l1 k1) (hl1 : s.heap.IsList l1 xs) (hx : xs[k1]? = none)
    (hE : ∀ h' e, (∀ c o, c ≠ z → c ≠ i1 → s.heap.get? c = some o → h'.get? c = some o) → (∃ o, h'.get? e = some o ∧ o.cls = .type "StopIteration") → E (.ref e) { s with heap := h' }) :
    wpAny (model prog w) A (Builtin.«zip.__next__» ⟨[.ref z], []⟩) Q E s := by
  show wpAny _ _ (field (.ref z) 2 >>= _) _ _ _
  refine wpAny_bind (wpAny_field hz rfl (x := .bool false) rfl ?_)
  show wpAny _ _ (field (.ref z) 3 >>= _) _ _ _
  refine wpAny_bind (wpAny_field hz rfl (x := .ref TI) rfl ?_)
  refine wpAny_bind (wpAny_seqItems hTI rfl ?_)
  show wpAny _ _ (Builtin.SmallTypes.ownedTupleIsFree (.ref z) >>= _) _ _ _
  refine wpAny_bind ?_
  unfold Builtin.SmallTypes.ownedTupleIsFree
  refine wpAny_bind (wpAny_field hz rfl (x := .none) rfl (wpAny_pure ?_))
  simp only [if_true]
  refine wpAny_bind (wpAny_rule ?_)
  refine wpAny_bind (wpAny_field hz rfl (x := .ref TO) rfl ?_)
  refine wpAny_bind (wpAny_setField_rec hz (by simp) fun h₁ hz₁ hs₁ => ?_)
  replace hz₁ : IsZip h₁ z TI TO .ellipsis := hz₁
  refine wpAny_bind ?_
  simp only [List.zipIdx_cons, List.zipIdx_nil, List.forIn_cons, List.forIn_nil]
  refine wpAny_bind (wpAny_bind (wpAny_onRaise ?_))
  show wpAny _ _ (Builtin.SmallTypes.nextOf (.ref i1) >>= _) _ _ _
  refine wpAny_bind (wpAny_nextOf_list_end hh (h1.extBut hs₁.extBut i1z) (hl1.extBut hs₁.extBut l1z) hx fun h₂ e hs₂ he => ?_)
  obtain ⟨oe, hoe, hce⟩ := he
  have hz₂ : IsZip h₂ z TI TO .ellipsis := hs₂ _ _ i1z.symm hz₁
  have hez : e ≠ z := fun x => by subst x; rw [hz₂] at hoe; cases hoe; simp at hce
  refine wpAny_setField_rec hz₂ (by simp) fun h₃ _ hs₃ => hE h₃ e (fun c o c1 c3 x => hs₃.extBut _ _ c1 (hs₂ _ _ c3 (hs₁.extBut _ _ c1 x))) ⟨oe, hs₃.extBut _ _ hez hoe, hce⟩
end
end DL
set_option Elab.async false
set_option linter.all false
set_option maxRecDepth 100000
set_option maxHeartbeats 2000000
namespace PySem
open Sem (wp)
open PySem.W (kdx_alive)
open DL (Sq SqI nextOf_sq_item nextOf_sq_end nextOf_zz_item nextOf_zz_held zip_end_first zip_end_first_held)
section
variable {prog : Program} {w : World} {A : Around} {E : Value → Shared → Prop} {s : Shared}
abbrev IsZ (h : Heap) (z TI TO : Addr) (f0 f1 : Value) : Prop :=
  h.get? z = some { cls := .type "zip", dict := none, data := .fields #[f0, f1, .bool false, .ref TI, .ref TO], slots := #[] }
def ZAny (h : Heap) (z TI TO : Addr) : Prop := IsZip h z TI TO .none ∨ ∃ T f, IsZipHeld h z TI TO T f
theorem gone_alive {a : Addr} {Q : Option Obj → Shared → Prop} (ho : s.heap.get? a = none) (h : Q none s) : wpAny (model prog w) A (loadIfAlive a) Q E s := by
  have h' : Q (s.heap.get? a) s := by rw [ho]; exact h
  exact fun _ _ _ => h'
theorem tupleGone_zip {z TI TO T : Addr} {f : Bool} {Q : Bool → Shared → Prop} (hz : IsZipHeld s.heap z TI TO T f) (hT : s.heap.get? T = none) (h : Q true s) : wpAny (model prog w) A (Builtin.SmallTypes.ownedTupleIsFree (.ref z)) Q E s := by
  unfold Builtin.SmallTypes.ownedTupleIsFree
  refine wpAny_bind (wpAny_field hz rfl (x := rawInt T) rfl ?_)
  show wpAny _ _ (loadIfAlive ((T : Int).toNat) >>= _) _ _ _
  rw [Int.toNat_natCast]
  exact wpAny_bind (gone_alive hT (wpAny_pure h))
theorem zip_gone_item {bb : Bool} {z TI TO T i1 i2 l1 l2 : Addr} {f : Bool} {k1 k2 : Nat} {xs ys : Array Value} {x y a b : Value} {Q : Value → Shared → Prop} (D : ZipApart z TI TO i1 i2 l1 l2)
    (hz : IsZipHeld s.heap z TI TO T f) (hT : s.heap.get? T = none) (hTI : IsPair s.heap TI (.ref i1) (.ref i2)) (hTO : IsPair s.heap TO a b)
    (h1 : s.heap.IsListIter i1 l1 k1) (h2 : SqI bb s.heap i2 l2 k2) (hl1 : s.heap.IsList l1 xs) (hl2 : Sq bb s.heap l2 ys) (hx : xs[k1]? = some x) (hy : ys[k2]? = some y)
    (hQ : ∀ h', IsZip h' z TI TO (rawInt s.heap.objs.size) → IsPair h' TO x y → h'.IsListIter i1 l1 (k1 + 1) → SqI bb h' i2 l2 (k2 + 1) → IsPair h' s.heap.objs.size x y → h'.objs.size = s.heap.objs.size + 1 →
      (∀ c o, c ≠ z → c ≠ TO → c ≠ i1 → c ≠ i2 → s.heap.get? c = some o → h'.get? c = some o) → Q (.ref s.heap.objs.size) { s with heap := h' }) :
    wpAny (model prog w) A (Builtin.«zip.__next__» ⟨[.ref z], []⟩) (fun fin s' => ∃ v, fin = .done (.ret v) ∧ Q v s') E s := by
  show wpAny _ _ (field (.ref z) 2 >>= _) _ _ _
  refine wpAny_bind (wpAny_field hz rfl (x := .bool false) rfl ?_)
  show wpAny _ _ (field (.ref z) 3 >>= _) _ _ _
  refine wpAny_bind (wpAny_field hz rfl (x := .ref TI) rfl ?_)
  refine wpAny_bind (wpAny_seqItems hTI rfl ?_)
  show wpAny _ _ (Builtin.SmallTypes.ownedTupleIsFree (.ref z) >>= _) _ _ _
  refine wpAny_bind (tupleGone_zip hz hT ?_)
  simp only [if_true]
  refine wpAny_bind (wpAny_rule ?_)
  refine wpAny_bind (wpAny_field hz rfl (x := .ref TO) rfl ?_)
  refine wpAny_bind (wpAny_setField_rec hz (by simp) fun h₁ hz₁ hs₁ => ?_)
  replace hz₁ : IsZ h₁ z TI TO .ellipsis (.bool f) := hz₁
  refine wpAny_bind ?_
  simp only [List.zipIdx_cons, List.zipIdx_nil, List.forIn_cons, List.forIn_nil]
  refine wpAny_bind (wpAny_bind (wpAny_onRaise ?_))
  show wpAny _ _ (Builtin.SmallTypes.nextOf (.ref i1) >>= _) _ _ _
  refine wpAny_bind (wpAny_nextOf_list_item (h1.extBut hs₁.extBut D.i1z) (hl1.extBut hs₁.extBut D.l1z) hx fun h₂ h1₂ hs₂ => wpAny_pure ?_)
  have hTO₂ : IsPair h₂ TO a b := hs₂.extBut _ _ D.TOi1 (hs₁.extBut _ _ D.TOz hTO)
  refine wpAny_bind (wpAny_seqItems hTO₂ rfl ?_)
  refine wpAny_bind (wpAny_updateSeq_pair hTO₂ fun h₃ hTO₃ hs₃ => ?_)
  replace hTO₃ : IsPair h₃ TO x b := hTO₃
  refine wpAny_bind (wpAny_letGo (wpAny_pure ?_))
  refine wpAny_bind (wpAny_bind (wpAny_onRaise ?_))
  show wpAny _ _ (Builtin.SmallTypes.nextOf (.ref i2) >>= _) _ _ _
  refine wpAny_bind (nextOf_sq_item (((h2.extBut hs₁.extBut D.i2z).extBut hs₂.extBut D.i12.symm).extBut hs₃.extBut D.TOi2.symm)
    (((hl2.extBut hs₁.extBut D.l2z).extBut hs₂.extBut D.l2i1).extBut hs₃.extBut D.l2TO) hy fun h₄ h2₄ hs₄ => wpAny_pure ?_)
  have hTO₄ : IsPair h₄ TO x b := hs₄.extBut _ _ D.TOi2 hTO₃
  refine wpAny_bind (wpAny_seqItems hTO₄ rfl ?_)
  refine wpAny_bind (wpAny_updateSeq_pair hTO₄ fun h₅ hTO₅ hs₅ => ?_)
  replace hTO₅ : IsPair h₅ TO x y := hTO₅
  refine wpAny_bind (wpAny_letGo (wpAny_pure (wpAny_pure ?_)))
  refine wpAny_bind (wpAny_seqItems hTO₅ rfl ?_)
  refine wpAny_bind (wpAny_newTuple ?_)
  have hsz : h₅.objs.size = s.heap.objs.size := by rw [hs₅.1, hs₄.1, hs₃.1, hs₂.1, hs₁.1]
  have hz₅ : IsZ h₅ z TI TO .ellipsis (.bool f) := hs₅.extBut _ _ D.TOz.symm (hs₄.extBut _ _ D.i2z.symm (hs₃.extBut _ _ D.TOz.symm (hs₂.extBut _ _ D.i1z.symm hz₁)))
  have hk₅ : ∀ c o, c ≠ z → c ≠ TO → c ≠ i1 → c ≠ i2 → s.heap.get? c = some o → h₅.get? c = some o := fun c o c1 c2 c3 c4 e =>
    hs₅.extBut _ _ c2 (hs₄.extBut _ _ c4 (hs₃.extBut _ _ c2 (hs₂.extBut _ _ c3 (hs₁.extBut _ _ c1 e))))
  have h1₅ : h₅.IsListIter i1 l1 (k1 + 1) := ((h1₂.extBut hs₃.extBut D.TOi1.symm).extBut hs₄.extBut D.i12).extBut hs₅.extBut D.TOi1.symm
  have h2₅ : SqI bb h₅ i2 l2 (k2 + 1) := h2₄.extBut hs₅.extBut D.TOi2.symm
  have hzlt : z < h₅.objs.size := Heap.lt_size hz₅
  show wpAny _ _ (Builtin.SmallTypes.ownedTupleHandOut (.ref z) (.ref h₅.objs.size) >>= _) _ _ _
  refine wpAny_bind ?_
  unfold Builtin.SmallTypes.ownedTupleHandOut
  have hz₆ : IsZ (h₅.push { cls := .type "tuple", data := .seq #[x, y] }) z TI TO .ellipsis (.bool f) := Heap.get?_push_of_some _ hz₅
  refine wpAny_bind (wpAny_setField_rec hz₆ (by simp) fun h₇ hz₇ hs₇ => ?_)
  replace hz₇ : IsZ h₇ z TI TO (rawInt h₅.objs.size) (.bool f) := hz₇
  refine wpAny_setField_rec hz₇ (by simp) fun h₈ hz₈ hs₈ => ?_
  replace hz₈ : IsZip h₈ z TI TO (rawInt h₅.objs.size) := hz₈
  have up : ∀ c o, c ≠ z → h₅.get? c = some o → h₈.get? c = some o := fun c o c1 e => hs₈.extBut _ _ c1 (hs₇.extBut _ _ c1 (Heap.get?_push_of_some _ e))
  have hT₈ : IsPair h₈ h₅.objs.size x y := hs₈.extBut _ _ (Nat.ne_of_gt hzlt) (hs₇.extBut _ _ (Nat.ne_of_gt hzlt) (Heap.get?_push_size _ rfl))
  have hz8 : h₈.objs.size = h₅.objs.size + 1 := by rw [hs₈.1, hs₇.1, Heap.size_push]
  rw [hsz] at hz₈ hT₈ hz8
  refine wpAny_pure ⟨_, rfl, ?_⟩
  show Q (.ref h₅.objs.size) _
  rw [hsz]
  exact hQ h₈ hz₈ (up _ _ D.TOz hTO₅) (h1₅.at fun o e => up _ o D.i1z e) (h2₅.at fun o e => up _ o D.i2z e) hT₈ hz8 fun c o c1 c2 c3 c4 e => up c o c1 (hk₅ c o c1 c2 c3 c4 e)
theorem zip_gone_end {bb : Bool} {z TI TO T i1 i2 l1 l2 : Addr} {f : Bool} {k1 k2 : Nat} {xs ys : Array Value} {a b : Value} {Q : Fin → Shared → Prop} (hh : A.handled = none) (D : ZipApart z TI TO i1 i2 l1 l2)
    (hz : IsZipHeld s.heap z TI TO T f) (hT : s.heap.get? T = none) (hTI : IsPair s.heap TI (.ref i1) (.ref i2)) (hTO : IsPair s.heap TO a b)
    (h1 : s.heap.IsListIter i1 l1 k1) (h2 : SqI bb s.heap i2 l2 k2) (hl1 : s.heap.IsList l1 xs) (hl2 : Sq bb s.heap l2 ys) (hend : xs[k1]? = none ∨ ys[k2]? = none)
    (hE : ∀ h' e, (∀ c o, c ≠ z → c ≠ TO → c ≠ i1 → c ≠ i2 → s.heap.get? c = some o → h'.get? c = some o) → (∃ o, h'.get? e = some o ∧ o.cls = .type "StopIteration") → E (.ref e) { s with heap := h' }) :
    wpAny (model prog w) A (Builtin.«zip.__next__» ⟨[.ref z], []⟩) Q E s := by
  show wpAny _ _ (field (.ref z) 2 >>= _) _ _ _
  refine wpAny_bind (wpAny_field hz rfl (x := .bool false) rfl ?_)
  show wpAny _ _ (field (.ref z) 3 >>= _) _ _ _
  refine wpAny_bind (wpAny_field hz rfl (x := .ref TI) rfl ?_)
  refine wpAny_bind (wpAny_seqItems hTI rfl ?_)
  show wpAny _ _ (Builtin.SmallTypes.ownedTupleIsFree (.ref z) >>= _) _ _ _
  refine wpAny_bind (tupleGone_zip hz hT ?_)
  simp only [if_true]
  refine wpAny_bind (wpAny_rule ?_)
  refine wpAny_bind (wpAny_field hz rfl (x := .ref TO) rfl ?_)
  refine wpAny_bind (wpAny_setField_rec hz (by simp) fun h₁ hz₁ hs₁ => ?_)
  replace hz₁ : IsZ h₁ z TI TO .ellipsis (.bool f) := hz₁
  refine wpAny_bind ?_
  simp only [List.zipIdx_cons, List.zipIdx_nil, List.forIn_cons, List.forIn_nil]
  refine wpAny_bind (wpAny_bind (wpAny_onRaise ?_))
  show wpAny _ _ (Builtin.SmallTypes.nextOf (.ref i1) >>= _) _ _ _
  cases hx : xs[k1]? with
  | none =>
    refine wpAny_bind (wpAny_nextOf_list_end hh (h1.extBut hs₁.extBut D.i1z) (hl1.extBut hs₁.extBut D.l1z) hx fun h₂ e hs₂ he => ?_)
    obtain ⟨oe, hoe, hce⟩ := he
    have hz₂ : IsZ h₂ z TI TO .ellipsis (.bool f) := hs₂ _ _ D.i1z.symm hz₁
    have hez : e ≠ z := fun x => by subst x; rw [hz₂] at hoe; cases hoe; simp at hce
    refine wpAny_setField_rec hz₂ (by simp) fun h₃ _ hs₃ => hE h₃ e (fun c o c1 _ c3 _ x => hs₃.extBut _ _ c1 (hs₂ _ _ c3 (hs₁.extBut _ _ c1 x))) ⟨oe, hs₃.extBut _ _ hez hoe, hce⟩
  | some x =>
    have hy : ys[k2]? = none := by rcases hend with h | h; rw [hx] at h; cases h; exact h
    refine wpAny_bind (wpAny_nextOf_list_item (h1.extBut hs₁.extBut D.i1z) (hl1.extBut hs₁.extBut D.l1z) hx fun h₂ h1₂ hs₂ => wpAny_pure ?_)
    have hTO₂ : IsPair h₂ TO a b := hs₂.extBut _ _ D.TOi1 (hs₁.extBut _ _ D.TOz hTO)
    refine wpAny_bind (wpAny_seqItems hTO₂ rfl ?_)
    refine wpAny_bind (wpAny_updateSeq_pair hTO₂ fun h₃ hTO₃ hs₃ => ?_)
    refine wpAny_bind (wpAny_letGo (wpAny_pure ?_))
    refine wpAny_bind (wpAny_bind (wpAny_onRaise ?_))
    show wpAny _ _ (Builtin.SmallTypes.nextOf (.ref i2) >>= _) _ _ _
    refine wpAny_bind (nextOf_sq_end hh (((h2.extBut hs₁.extBut D.i2z).extBut hs₂.extBut D.i12.symm).extBut hs₃.extBut D.TOi2.symm)
      (((hl2.extBut hs₁.extBut D.l2z).extBut hs₂.extBut D.l2i1).extBut hs₃.extBut D.l2TO) hy fun h₄ e hs₄ he => ?_)
    obtain ⟨oe, hoe, hce⟩ := he
    have hz₄ : IsZ h₄ z TI TO .ellipsis (.bool f) := hs₄ _ _ D.i2z.symm (hs₃.extBut _ _ D.TOz.symm (hs₂.extBut _ _ D.i1z.symm hz₁))
    have hez : e ≠ z := fun x => by subst x; rw [hz₄] at hoe; cases hoe; simp at hce
    refine wpAny_setField_rec hz₄ (by simp) fun h₅ _ hs₅ => hE h₅ e (fun c o c1 c2 c3 c4 x => hs₅.extBut _ _ c1 (hs₄ _ _ c4 (hs₃.extBut _ _ c2 (hs₂.extBut _ _ c3 (hs₁.extBut _ _ c1 x))))) ⟨oe, hs₅.extBut _ _ hez hoe, hce⟩
theorem nextOf_zip_item {bb : Bool} {z TI TO i1 i2 l1 l2 : Addr} {k1 k2 : Nat} {xs ys : Array Value} {x y a b : Value} {Q : Value → Shared → Prop} (D : ZipApart z TI TO i1 i2 l1 l2)
    (hz : ZAny s.heap z TI TO) (hTI : IsPair s.heap TI (.ref i1) (.ref i2)) (hTO : IsPair s.heap TO a b)
    (h1 : s.heap.IsListIter i1 l1 k1) (h2 : SqI bb s.heap i2 l2 k2) (hl1 : s.heap.IsList l1 xs) (hl2 : Sq bb s.heap l2 ys) (hx : xs[k1]? = some x) (hy : ys[k2]? = some y)
    (hQ : ∀ h', ZAny h' z TI TO → (∃ a b, IsPair h' TO a b) → h'.IsListIter i1 l1 (k1 + 1) → SqI bb h' i2 l2 (k2 + 1) → IsPair h' s.heap.objs.size x y → h'.objs.size = s.heap.objs.size + 1 →
      (∀ c o, c ≠ z → c ≠ TO → c ≠ i1 → c ≠ i2 → s.heap.get? c = some o → h'.get? c = some o) → Q (.ref s.heap.objs.size) { s with heap := h' }) :
    wpAny (model prog w) A (Builtin.SmallTypes.nextOf (.ref z)) Q E s := by
  rcases hz with h | ⟨T, f, h⟩
  · exact nextOf_zz_item (b1 := false) (b2 := bb) D h hTI hTO h1 h2 hl1 hl2 hx hy fun h' a1 a2 a3 a4 a5 a6 a7 => hQ h' (.inr ⟨_, _, a1⟩) a2 a3 a4 a5 a6 a7
  · cases e : s.heap.get? T with
    | none =>
      have hT : s.TypeIs (.ref z) "zip" := ⟨_, h, rfl⟩
      unfold Builtin.SmallTypes.nextOf
      refine wpAny_bind (wpAny_callSpecial?_slot (name := Str.ofString "__next__") hT F.slot_zip_next
        (wpAny_call_entry F.slot_zip_next hT F.entry_zip_next ?_ (F.args_zip_next_1 _)))
      exact zip_gone_item D h e hTI hTO h1 h2 hl1 hl2 hx hy fun h' a1 a2 a3 a4 a5 a6 a7 => wpAny_pure (hQ h' (.inr ⟨_, _, a1⟩) ⟨_, _, a2⟩ a3 a4 a5 a6 a7)
    | some o => exact nextOf_zz_held (b1 := false) (b2 := bb) D h e hTI h1 h2 hl1 hl2 hx hy fun h' a1 a3 a4 a5 a6 a7 => hQ h' (.inr ⟨_, _, a1⟩) ⟨_, _, a7 _ _ D.TOz D.TOi1 D.TOi2 hTO⟩ a3 a4 a5 a6 fun c o c1 c2 c3 c4 q => a7 c o c1 c3 c4 q
theorem nextOf_zip_end {bb : Bool} {z TI TO i1 i2 l1 l2 : Addr} {k1 k2 : Nat} {xs ys : Array Value} {a b : Value} {Q : Value → Shared → Prop} (hh : A.handled = none) (D : ZipApart z TI TO i1 i2 l1 l2)
    (hz : ZAny s.heap z TI TO) (hTI : IsPair s.heap TI (.ref i1) (.ref i2)) (hTO : IsPair s.heap TO a b)
    (h1 : s.heap.IsListIter i1 l1 k1) (h2 : SqI bb s.heap i2 l2 k2) (hl1 : s.heap.IsList l1 xs) (hl2 : Sq bb s.heap l2 ys) (hend : xs[k1]? = none ∨ (bb = false ∧ ys[k2]? = none))
    (hE : ∀ h' e, (∀ c o, c ≠ z → c ≠ TO → c ≠ i1 → c ≠ i2 → s.heap.get? c = some o → h'.get? c = some o) → (∃ o, h'.get? e = some o ∧ o.cls = .type "StopIteration") → E (.ref e) { s with heap := h' }) :
    wpAny (model prog w) A (Builtin.SmallTypes.nextOf (.ref z)) Q E s := by
  have hT : s.TypeIs (.ref z) "zip" := by
    rcases hz with h | ⟨_, _, h⟩
    · exact ⟨_, h, rfl⟩
    · exact ⟨_, h, rfl⟩
  unfold Builtin.SmallTypes.nextOf
  refine wpAny_bind (wpAny_callSpecial?_slot (name := Str.ofString "__next__") hT F.slot_zip_next
    (wpAny_call_entry F.slot_zip_next hT F.entry_zip_next ?_ (F.args_zip_next_1 _)))
  have hh' : A.in1.handled = none := hh
  have hend' : xs[k1]? = none ∨ ys[k2]? = none := hend.imp id fun q => q.2
  rcases hz with h | ⟨T, f, h⟩
  · rcases hend with q | ⟨rfl, q⟩
    · exact zip_end_first hh' D.i1z D.l1z h hTI h1 hl1 q fun h' e hk he => hE h' e (fun c o c1 _ c3 _ z => hk c o c1 c3 z) he
    · exact zip_next_end hh' D h hTI hTO h1 h2 hl1 hl2 (.inr q) hE
  · cases e : s.heap.get? T with
    | none => exact zip_gone_end hh' D h e hTI hTO h1 h2 hl1 hl2 hend' hE
    | some o =>
      rcases hend with q | ⟨rfl, q⟩
      · exact zip_end_first_held hh' D.i1z D.l1z h e hTI h1 hl1 q fun h' e hk he => hE h' e (fun c o c1 _ c3 _ z => hk c o c1 c3 z) he
      · exact zip_next_end_held hh' D h e hTI h1 h2 hl1 hl2 (.inr q) fun h' e hk he => hE h' e (fun c o c1 c2 c3 c4 q => hk c o c1 c3 c4 q) he
theorem enum_next_any {e it : Addr} {i : Nat} {old : Value} {P : Value → Heap → Nat → Prop} {Q : Option Value → Shared → Prop} (he : IsEnum s.heap e it i old)
    (hitem : ∀ (A' : Around) (Q' : Value → Shared → Prop) (E' : Value → Shared → Prop), (∀ x h' tk, P x h' tk → h'.get? e = s.heap.get? e → Q' x { s with heap := h', toks := tk }) → wpAny (model prog w) A' (Builtin.SmallTypes.nextOf (.ref it)) Q' E' s)
    (hQ : ∀ x h1 tk h', P x h1 tk → IsEnumOut h' e it ((i : Int) + 1) x h1.objs.size → h'.get? h1.objs.size = some { cls := .type "tuple", data := .seq #[.int i tk, x] } → h'.objs.size = h1.objs.size + 1 →
      (∀ b o, b ≠ e → h1.get? b = some o → h'.get? b = some o) → Q (some (.ref h1.objs.size)) { s with heap := h', toks := tk + 1 }) :
    wpAny (model prog w) A (pyNext (.ref e)) Q E s := by
  have hT : s.TypeIs (.ref e) "enumerate" := ⟨_, he, rfl⟩
  unfold pyNext
  refine wpAny_bind (wpAny_attempt (wpAny_callSpecial?_slot (name := Str.ofString "__next__") hT F.slot_enumerate_next
    (wpAny_call_entry F.slot_enumerate_next hT F.entry_enumerate_next ?_ (F.args_enumerate_next_1 _))))
  obtain ⟨hp, g, d, tk₀, os⟩ := s
  show wpAny _ _ (field (.ref e) 2 >>= _) _ _ _
  refine wpAny_bind (wpAny_field he rfl (x := .ref it) rfl ?_)
  refine wpAny_bind (hitem _ _ _ fun x h₁ tk hPx hsame => ?_)
  have he₁ : IsEnum h₁ e it i old := hsame.trans he
  show wpAny _ _ (field (.ref e) 3 >>= _) _ _ ⟨h₁, g, d, tk, os⟩
  refine wpAny_bind (wpAny_field he₁ rfl (x := rawInt i) rfl ?_)
  show wpAny _ _ (field (.ref e) 4 >>= _) _ _ ⟨h₁, g, d, tk, os⟩
  refine wpAny_bind (wpAny_field he₁ rfl (x := .none) rfl ?_)
  show wpAny _ _ (mkInt i >>= _) _ _ ⟨h₁, g, d, tk, os⟩
  refine wpAny_bind (wpAny_mkInt ?_)
  show wpAny _ _ (setField (.ref e) 3 (rawInt ((i : Int) + 1)) >>= _) _ _ ⟨h₁, g, d, tk + 1, os⟩
  refine wpAny_bind (wpAny_setField_rec he₁ (by simp) fun h₂ he₂ hs₂ => ?_)
  replace hs₂ : Heap.SameBut e h₁ h₂ := hs₂
  replace he₂ : IsEnum h₂ e it ((i : Int) + 1) old := he₂
  show wpAny _ _ (setField (.ref e) 4 .none >>= _) _ _ ⟨h₂, g, d, tk + 1, os⟩
  refine wpAny_bind (wpAny_setField_rec he₂ (by simp) fun h₃ he₃ hs₃ => ?_)
  replace hs₃ : Heap.SameBut e h₂ h₃ := hs₃
  replace he₃ : IsEnum h₃ e it ((i : Int) + 1) old := he₃
  show wpAny _ _ (newTuple [.int i tk, x] >>= _) _ _ ⟨h₃, g, d, tk + 1, os⟩
  refine wpAny_bind (wpAny_newTuple ?_)
  have he₄ : IsEnum (h₃.push { cls := .type "tuple", data := .seq #[.int i tk, x] }) e it ((i : Int) + 1) old := Heap.get?_push_of_some _ he₃
  generalize hh₄ : h₃.push { cls := .type "tuple", data := .seq #[.int i tk, x] } = h₄ at he₄
  have hsz : h₃.objs.size = h₁.objs.size := by rw [hs₃.1, hs₂.1]
  have hel : e < h₁.objs.size := Heap.lt_size he₁
  have ht₄ : h₄.get? h₁.objs.size = some { cls := .type "tuple", data := .seq #[.int i tk, x] } := by rw [← hh₄, ← hsz]; exact Heap.get?_push_size _ rfl
  have hz₄ : h₄.objs.size = h₁.objs.size + 1 := by rw [← hh₄, Heap.size_push, hsz]
  have hk₄ : ∀ b o, b ≠ e → h₁.get? b = some o → h₄.get? b = some o := fun b o hbe hb => by
    rw [← hh₄]; exact Heap.get?_push_of_some _ (hs₃.extBut b o hbe (hs₂.extBut b o hbe hb))
  show wpAny _ _ (Builtin.SmallTypes.ownedTupleIsFree (.ref e) >>= _) _ _ ⟨h₄, g, d, tk + 1, os⟩
  rw [hsz]
  clear hh₄ he₃ hs₃ he₂ hs₂ hsz h₃ h₂
  refine wpAny_bind ?_
  · unfold Builtin.SmallTypes.ownedTupleIsFree
    refine wpAny_bind (wpAny_field he₄ rfl (x := .none) rfl (wpAny_pure ?_))
    simp only [if_true]
    refine wpAny_bind (wpAny_rule ?_)
    refine wpAny_bind (wpAny_field he₄ rfl (x := old) rfl ?_)
    refine wpAny_bind (wpAny_setField_rec he₄ (by simp) fun h₅ he₅ hs₅ => ?_)
    replace hs₅ : Heap.SameBut e h₄ h₅ := hs₅
    replace he₅ : IsEnum h₅ e it ((i : Int) + 1) x := he₅
    show wpAny _ _ (Builtin.SmallTypes.ownedTupleHandOut (.ref e) (.ref h₁.objs.size) >>= _) _ _ ⟨h₅, g, d, tk + 1, os⟩
    refine wpAny_bind ?_
    · unfold Builtin.SmallTypes.ownedTupleHandOut
      refine wpAny_bind (wpAny_setField_rec he₅ (by simp) fun h₆ he₆ hs₆ => ?_)
      replace hs₆ : Heap.SameBut e h₅ h₆ := hs₆
      replace he₆ : IsEnumOut h₆ e it ((i : Int) + 1) x h₁.objs.size := he₆
      refine wpAny_setField_rec he₆ (by simp) fun h₇ he₇ hs₇ => ?_
      replace hs₇ : Heap.SameBut e h₆ h₇ := hs₇
      replace he₇ : IsEnumOut h₇ e it ((i : Int) + 1) x h₁.objs.size := he₇
      refine wpAny_bind (wpAny_letGo (wpAny_pure ⟨_, rfl, wpAny_pure (hQ x h₁ tk h₇ hPx he₇ ?_ ?_ ?_)⟩))
      · exact hs₇.extBut _ _ (Nat.ne_of_gt hel) (hs₆.extBut _ _ (Nat.ne_of_gt hel) (hs₅.extBut _ _ (Nat.ne_of_gt hel) ht₄))
      · rw [hs₇.1, hs₆.1, hs₅.1, hz₄]
      · exact fun b o hbe hb => hs₇.extBut b o hbe (hs₆.extBut b o hbe (hs₅.extBut b o hbe (hk₄ b o hbe hb)))
theorem enum_next_end_any {e it : Addr} {i : Int} {old : Value} {P : Heap → Prop} {Q : Option Value → Shared → Prop} (he : IsEnum s.heap e it i old)
    (hdone : ∀ (A' : Around) (Q' : Value → Shared → Prop) (E' : Value → Shared → Prop), A'.handled = A.handled → (∀ h' x, P h' → (∃ o, h'.get? x = some o ∧ o.cls = .type "StopIteration") → E' (.ref x) { s with heap := h' }) → wpAny (model prog w) A' (Builtin.SmallTypes.nextOf (.ref it)) Q' E' s)
    (hQ : ∀ h', P h' → Q none { s with heap := h' }) : wpAny (model prog w) A (pyNext (.ref e)) Q E s := by
  have hT : s.TypeIs (.ref e) "enumerate" := ⟨_, he, rfl⟩
  unfold pyNext
  refine wpAny_bind (wpAny_attempt (wpAny_callSpecial?_slot (name := Str.ofString "__next__") hT F.slot_enumerate_next
    (wpAny_call_entry F.slot_enumerate_next hT F.entry_enumerate_next ?_ (F.args_enumerate_next_1 _))))
  show wpAny _ _ (field (.ref e) 2 >>= _) _ _ _
  refine wpAny_bind (wpAny_field he rfl (x := .ref it) rfl ?_)
  refine wpAny_bind (hdone _ _ _ rfl fun h' x hP hx' => ?_)
  obtain ⟨o, ho, hc⟩ := hx'
  refine wpAny_bind (wpAny_isInstance (T := "StopIteration") (b := true) ⟨o, ho, hc⟩ isSubtype_stop ?_)
  exact wpAny_pure (hQ _ hP)
theorem meets_enumerate_newZ (z : Addr) (o : Obj) (f0 f1 : Value) (TI TO : Addr) :
    Meets (Builtin.«enumerate.__new__» ⟨[.type "enumerate", .ref z], []⟩) (fun _ R s => IsZip s.heap z TI TO f0 ∧
      R (.ok (.ret (.ref s.heap.objs.size)))
        { s with heap := s.heap.push { cls := .type "enumerate", data := .fields #[.none, .bool false, .ref z, rawInt 0, .none, .none] } }) :=
  .of_wp fun prog w A R s h => by
    obtain ⟨hp, g, d, tk, os⟩ := s; obtain ⟨hl, h⟩ := h
    have hsub := sub_enumerate
    have hZ : IsZip (Shared.heap ⟨hp, g, d, tk, os⟩) z TI TO f0 := hl
    wp_walk using wpAny_loadPart' hl
    refine wpAny_stack_any fun st => wpAny_pure ?_
    split
    · rename_i c _ _ _ _ _
      cases (c == Value.type "enumerate")
      · wp_walk using wpAny_loadPart' hl, wpAny_pyIter_zip hZ
        exact ⟨_, rfl, h⟩
      · wp_walk using wpAny_loadPart' hl, wpAny_pyIter_zip hZ
        exact ⟨_, rfl, h⟩
    · wp_walk using wpAny_loadPart' hl, wpAny_pyIter_zip hZ
      exact ⟨_, rfl, h⟩
theorem call_enumerate_zip {z TI TO : Addr} {f0 : Value} {Q : Value → Shared → Prop} (hz : IsZip s.heap z TI TO f0)
    (h : ∀ h', IsEnum h' s.heap.objs.size z 0 .none → h'.objs.size = s.heap.objs.size + 1 → (∀ b o, s.heap.get? b = some o → h'.get? b = some o) → Q (.ref s.heap.objs.size) { s with heap := h' }) :
    wpAny (model prog w) A (call (.type "enumerate") [.ref z]) Q E s := by
  refine callType_new F.called_enumerate (by decide) (F.typeCall_enumerate_1 _) (F.newCall_enumerate_1 _) (fun obj => F.args_object_init_2 obj _) F.entry_enumerate_new
    (meets_enumerate_newZ z { cls := .none, data := .seq #[] } f0 .none TI TO) ⟨hz, ?_⟩
  have he : IsEnum (s.heap.push { cls := .type "enumerate", data := .fields #[.none, .bool false, .ref z, rawInt 0, .none, .none] }) s.heap.objs.size z 0 .none := Heap.get?_push_size _ rfl
  exact ⟨⟨_, he, rfl⟩, h _ he (by rw [Heap.size_push]) fun b o x => Heap.get?_push_of_some _ x⟩
end
end PySem
namespace DL
open PySem PySem.Spec PyProof.Rows L2
open Sem (wp)
def Itez (bb : Bool) (K : PySem.W.Frag) (a b : Addr) : It :=
  ⟨fun i H => ∃ (xs ys : List V) (x y : V), SqL K H a xs ∧ SqV bb K H b ys ∧ xs[i]? = some x ∧ ys[i]? = some y,
    fun i H v H' => ∃ T U x y, v = .ref U ∧ H T = none ∧ upd H T (.tup [x, y]) U = none ∧ H' = upd (upd H T (.tup [x, y])) U (.tup [.int (i : Nat), .ref T]) ∧ (∀ xs, SqL K H a xs → xs[i]? = some x) ∧ ∀ ys, SqV bb K H b ys → ys[i]? = some y,
    fun i H => ∃ xs ys : List V, SqL K H a xs ∧ SqV bb K H b ys ∧ (xs.length ≤ i ∨ (bb = false ∧ ys.length ≤ i))⟩
theorem turn_enumzip {P : Program} {w : World} {K : PySem.W.Frag} {elts : List Expr} {kk : Nat} {tpos : Pos} {bb : Bool} {a b e z TI TO i1 i2 : Addr} (D : ZipApart z TI TO i1 i2 a b) (ez : e ≠ z) (eTI : e ≠ TI) (eTO : e ≠ TO) (e1 : e ≠ i1) (e2 : e ≠ i2) :
    Turn P w K (.Tuple elts kk tpos) (Itez bb K a b) [e, z, TI, TO, i1, i2] e (fun i h => (∃ old, IsEnum h e z ((i : Nat) : Int) old) ∧ ZAny h z TI TO ∧ IsPair h TI (.ref i1) (.ref i2) ∧ (∃ x y, IsPair h TO x y) ∧ h.IsListIter i1 a i ∧ SqI bb h i2 b i) where
  mem := by simp
  obj := fun i h st c hc => by
    obtain ⟨⟨old, he⟩, hz, hTI, ⟨x, y, hTO⟩, ⟨o1, e1, _, d1⟩, g2⟩ := st
    obtain ⟨o2, _, e2, d2⟩ := g2.obj
    have e' : c = e ∨ c = z ∨ c = TI ∨ c = TO ∨ c = i1 ∨ c = i2 := by simpa using hc
    rcases e' with q | q | q | q | q | q
    · rw [q]; exact ⟨_, he, fun v q => nomatch q⟩
    · rw [q]
      rcases hz with hz | ⟨_, _, hz⟩
      · exact ⟨_, hz, fun v q => nomatch q⟩
      · exact ⟨_, hz, fun v q => nomatch q⟩
    · rw [q]; exact ⟨_, hTI, fun v q => nomatch q⟩
    · rw [q]; exact ⟨_, hTO, fun v q => nomatch q⟩
    · rw [q]; exact ⟨o1, e1, fun v q => by rw [d1] at q; cases q⟩
    · rw [q]; exact ⟨o2, e2, fun v q => by rw [d2] at q; cases q⟩
  keep := fun i h h' st k => by
    obtain ⟨⟨old, he⟩, hz, hTI, ⟨x, y, hTO⟩, h1, h2⟩ := st
    refine ⟨⟨old, k e (by simp) _ he⟩, ?_, k TI (by simp) _ hTI, ⟨x, y, k TO (by simp) _ hTO⟩, h1.at fun o q => k i1 (by simp) o q, h2.at fun o q => k i2 (by simp) o q⟩
    rcases hz with hz | ⟨_, _, hz⟩
    · exact .inl (k z (by simp) _ hz)
    · exact .inr ⟨_, _, k z (by simp) _ hz⟩
  item := by
    intro X hP hw hK hc i pins s σ H E I hf st hg
    subst hP hw hK
    obtain ⟨⟨old, he⟩, hz, hTI, ⟨x0, y0, hTO⟩, h1, h2⟩ := st
    obtain ⟨xs, ys, x, y, hqx, hqy, hx, hy⟩ := hg
    obtain ⟨its, rv, p, _⟩ := I.list hqx
    obtain ⟨its2, rv2, p2, lt2⟩ := inv_sq I hqy
    obtain ⟨u, hu, ru⟩ := rv.get hx
    obtain ⟨u2, hu2, ru2⟩ := rv2.get hy
    have hzl : z < s.heap.objs.size := by
      rcases hz with hz | ⟨_, _, hz⟩ <;> exact Heap.lt_size hz
    have hel : e < s.heap.objs.size := Heap.lt_size he
    have hin : ∀ c ∈ [e, z, TI, TO, i1, i2], c < s.heap.objs.size := fun c hcm => by
      have e' : c = e ∨ c = z ∨ c = TI ∨ c = TO ∨ c = i1 ∨ c = i2 := by simpa using hcm
      rcases e' with q | q | q | q | q | q
      · rw [q]; exact hel
      · rw [q]; exact hzl
      · rw [q]; exact Heap.lt_size hTI
      · rw [q]; exact Heap.lt_size hTO
      · rw [q]; obtain ⟨_, e1, _⟩ := h1; exact Heap.lt_size e1
      · rw [q]; exact h2.lt
    refine enum_next_any (P := fun v h' tk => v = .ref s.heap.objs.size ∧ ZAny h' z TI TO ∧ (∃ a b, IsPair h' TO a b) ∧ h'.IsListIter i1 a (i + 1) ∧ SqI bb h' i2 b (i + 1) ∧ IsPair h' s.heap.objs.size u u2 ∧ h'.objs.size = s.heap.objs.size + 1 ∧ tk = s.toks ∧
      (∀ c o, c ≠ z → c ≠ TO → c ≠ i1 → c ≠ i2 → s.heap.get? c = some o → h'.get? c = some o)) he (fun A' Q' E' hQ' => nextOf_zip_item D hz hTI hTO h1 h2 p.isList p2 (x := u) (y := u2) (by simpa using hu) (by simpa using hu2) fun h' a1 a2 a3 a4 a5 a6 a7 => hQ' _ h' s.toks ⟨rfl, a1, a2, a3, a4, a5, a6, rfl, a7⟩ ((a7 e _ ez eTO e1 e2 he).trans he.symm)) ?_
    intro v h' tk h'' ⟨rv', z', ⟨xo, yo, TO'⟩, h1', h2', hT, hsz, htk, hk⟩ ho hU hsz2 hk2
    subst rv' htk
    refine ⟨_, rfl, wpAny_letOwnedTupleGo_enum (s := { s with heap := h'', toks := s.toks + 1 }) ho fun h3 he3 sb => ?_⟩
    have l1 : h'.objs.size = s.heap.objs.size + 1 := hsz
    have hTe : s.heap.objs.size ≠ e := Nat.ne_of_gt hel
    have new1 : ObjOk X.prog X.w (upd H s.heap.objs.size (.tup [x, y])) h' s.heap.objs.size (.tup [x, y]) :=
      ⟨by show 2 ≤ sizeLine; decide, [u, u2], .cons ru (.cons ru2 .nil), ⟨_, hT, rfl, _, rfl⟩⟩
    have I1 : Inv X pins σ (upd H s.heap.objs.size (.tup [x, y])) { s with heap := h', toks := s.toks } :=
      I.turnedNew (t' := s.toks) (ch := [e, z, TI, TO, i1, i2]) (fun c o hb q => hk c o (fun q' => hb (by simp [q'])) (fun q' => hb (by simp [q'])) (fun q' => hb (by simp [q'])) (fun q' => hb (by simp [q'])) q) hf (Nat.le_refl _) new1
    have hf1 : ∀ c ∈ [e, z, TI, TO, i1, i2], FpOk X pins (upd H s.heap.objs.size (.tup [x, y])) c := fun c hc => by
      obtain ⟨f0, f1⟩ := hf c hc
      exact ⟨by rw [upd_ne (Nat.ne_of_lt (hin c hc))]; exact f0, f1⟩
    have k3 : ∀ c o, c ≠ e → h'.get? c = some o → h3.get? c = some o := fun c o c1 q => (sb.2 c c1).trans (hk2 c o c1 q)
    have hU3 : h3.get? h'.objs.size = some { cls := .type "tuple", data := .seq #[.int i s.toks, .ref s.heap.objs.size] } := (sb.2 _ (fun q => absurd (show e < h'.objs.size by rw [l1]; exact Nat.lt_succ_of_lt hel) (by rw [← q]; exact Nat.lt_irrefl _))).trans hU
    have new2 : ObjOk X.prog X.w (upd (upd H s.heap.objs.size (.tup [x, y])) h'.objs.size (.tup [.int (i : Nat), .ref s.heap.objs.size])) h3 h'.objs.size (.tup [.int (i : Nat), .ref s.heap.objs.size]) :=
      ⟨by show 2 ≤ sizeLine; decide, [.int i s.toks, .ref s.heap.objs.size], .cons ⟨_, rfl⟩ (.cons rfl .nil), ⟨_, hU3, rfl, _, rfl⟩⟩
    have I2 : Inv X pins σ (upd (upd H s.heap.objs.size (.tup [x, y])) h'.objs.size (.tup [.int (i : Nat), .ref s.heap.objs.size])) { s with heap := h3, toks := s.toks + 1 } :=
      I1.turnedNew (t' := s.toks + 1) (ch := [e, z, TI, TO, i1, i2]) (fun c o hb q => k3 c o (fun q' => hb (by simp [q'])) q) hf1 (Nat.le_refl _) new2
    refine ⟨.ref h'.objs.size, _, I2, rfl, ⟨_, _, x, y, rfl, I.hok.fresh (Nat.le_refl _), I1.hok.fresh (Nat.le_refl _), rfl, fun l hl => by rw [I.list_inj hl hqx]; exact hx, fun l hl => by rw [inv_sq_inj I hl hqy]; exact hy⟩, ⟨⟨.ref s.heap.objs.size, ?_⟩, ?_, ?_, ⟨xo, yo, ?_⟩, ?_, ?_⟩, fun c hcm => ?_⟩
    · have q1 : ((i + 1 : Nat) : Int) = (i : Int) + 1 := by omega
      rw [q1]; exact he3
    · rcases z' with z' | ⟨_, _, z'⟩
      · exact .inl (k3 _ _ ez.symm z')
      · exact .inr ⟨_, _, k3 _ _ ez.symm z'⟩
    · exact k3 _ _ eTI.symm (hk _ _ D.TIz D.TITO D.TIi1 D.TIi2 hTI)
    · exact k3 _ _ eTO.symm TO'
    · exact h1'.at fun o q => k3 _ _ e1.symm q
    · exact h2'.at fun o q => k3 _ _ e2.symm q
    · have hlt := hin c hcm
      rw [upd_ne (Nat.ne_of_lt (by rw [l1]; exact Nat.lt_succ_of_lt hlt)), upd_ne (Nat.ne_of_lt hlt)]
      exact (hf c hcm).1
  done := by
    intro X hP hw hK hc i pins s σ H E I hf st hg
    subst hP hw hK
    obtain ⟨⟨old, he⟩, hz, hTI, ⟨x0, y0, hTO⟩, h1, h2⟩ := st
    obtain ⟨xs, ys, hqx, hqy, hend⟩ := hg
    obtain ⟨its, rv, p, _⟩ := I.list hqx
    obtain ⟨its2, rv2, p2, lt2⟩ := inv_sq I hqy
    have l1 := rv.length
    have l2 := rv2.length
    have hq : its.toArray[i]? = none ∨ (bb = false ∧ its2.toArray[i]? = none) := by
      rcases hend with q | q
      · exact .inl (by simp; omega)
      · exact .inr ⟨q.1, by have := q.2; simp; omega⟩
    exact enum_next_end_any (P := fun h' => ∀ c o, c ≠ z → c ≠ TO → c ≠ i1 → c ≠ i2 → s.heap.get? c = some o → h'.get? c = some o) he (fun A' Q' E' hA hE' => nextOf_zip_end (hA.trans (I.ok.hd hc)) D hz hTI hTO h1 h2 p.isList p2 hq fun h' x hk hx => hE' h' x hk hx) fun h' hk => ⟨rfl, I.turnedL (t' := s.toks) (ch := [e, z, TI, TO, i1, i2]) (fun c o hb q =>
      hk c o (fun q' => hb (by simp [q'])) (fun q' => hb (by simp [q'])) (fun q' => hb (by simp [q'])) (fun q' => hb (by simp [q'])) q) hf⟩
  self := fun A i s Q E st h => let ⟨⟨_, he⟩, _⟩ := st; wpAny_pyIter_enum he h
def iEnumZip (K : PySem.W.Frag) (ta : TA) : TI := fun σ H R => ta σ H fun vs H1 => ∃ bb a b xs ys, vs = [.ref a, .ref b] ∧ SqL K H1 a xs ∧ SqV bb K H1 b ys ∧ R (Itez bb K a b) H1
theorem pi_enumzip {X : Cx} {e e2 : Expr} {ta : TA} {p pos p2 pos2 tpos : Pos} {elts : List Expr} {kk : Nat} (hg : Gl X "zip") (hm : X.mg "zip" = none) (hg2 : Gl X "enumerate") (hm2 : X.mg "enumerate" = none) (ha : PA X [e, e2] ta)
    (hs : starEach [e, e2] X.env = (false, eval e X.env) :: starEach [e2] X.env := by rfl) (hpl : (backTo pos (starEach [e2] X.env)).any (·.1) = false := by rfl)
    (hs2 : starEach [.Call (.Name "zip" p) [e, e2] [] pos] X.env = [(false, eval (.Call (.Name "zip" p) [e, e2] [] pos) X.env)] := by rfl) :
    PI X (.Tuple elts kk tpos) (.Call (.Name "enumerate" p2) [.Call (.Name "zip" p) [e, e2] [] pos] [] pos2) (iEnumZip X.K ta) := by
  refine ⟨fun pins s σ H R I h => ?_⟩
  refine Call_ (ld_blt I hg2 hm2 boot_enumerate (PyProof.Rows.callWith_type1 ?_ hs2 rfl))
  rw [hs2]
  show wpAny _ _ (spliced ((false, eval (.Call (.Name "zip" p) [e, e2] [] pos) X.env) :: backTo pos2 [])) _ _ s
  refine Calls.spliced_cons ?_
  refine Call_ (ld_blt I hg hm PyProof.Rows.boot_zip (PyProof.Rows.callWith_type1 (thn (ha.run pos pins s σ H _ I h) fun us s1 ⟨vs, H1, I1, r1, q1⟩ => ?_) hs hpl))
  obtain ⟨bb, a, b, xs, ys, ex, hqx, hqy, q⟩ := q1
  subst ex
  cases r1 with
  | cons r rr =>
  cases rr with
  | cons r' rr =>
  cases rr
  cases r
  cases r'
  obtain ⟨its, rv, p1, _⟩ := I1.list hqx
  obtain ⟨its2, rv2, p2', lb⟩ := inv_sq I1 hqy
  have la : a < s1.heap.objs.size := p1.lt
  refine zip_begins2 (begins_list a its.toArray) (begins_sq bb b its2.toArray) p1.isList p2' fun h' hz hTI hTO h1 h2 hsz hk => ?_
  have h1 : h'.IsListIter s1.heap.objs.size a 0 := ⟨_, h1, rfl, rfl⟩
  have h2 := SqI.of h2
  refine Calls.spliced_nil ?_
  refine call_enumerate_zip (s := { s1 with heap := h' }) hz fun h3 he hsz3 hk3 => wpAny_pyIter_enum (s := { s1 with heap := h3 }) he ?_
  have I2 : Inv X pins σ H1 { s1 with heap := h3 } := I1.kept (t' := s1.toks) fun b o q => hk3 b o (hk b o q)
  have hes : (Shared.heap { s1 with heap := h' }).objs.size = s1.heap.objs.size + 5 := hsz
  have ne : ∀ k, k < 5 → (Shared.heap { s1 with heap := h' }).objs.size ≠ s1.heap.objs.size + k := fun k hk => by rw [hes]; omega
  refine ⟨(Shared.heap { s1 with heap := h' }).objs.size, [(Shared.heap { s1 with heap := h' }).objs.size, s1.heap.objs.size + 4, s1.heap.objs.size + 2, s1.heap.objs.size + 3, s1.heap.objs.size, s1.heap.objs.size + 1], _, _, H1, rfl, I2,
    turn_enumzip (PySem.W.ktu_apart s1.heap.objs.size a b la lb) (ne 4 (by omega)) (ne 2 (by omega)) (ne 3 (by omega)) (ne 0 (by omega)) (ne 1 (by omega)), ⟨⟨.none, he⟩, .inl (hk3 _ _ hz), hk3 _ _ hTI, ⟨_, _, hk3 _ _ hTO⟩, h1.at fun o q => hk3 _ _ q, h2.at fun o q => hk3 _ _ q⟩, fun c hcm => ?_, q⟩
  have e' : c = (Shared.heap { s1 with heap := h' }).objs.size ∨ c = s1.heap.objs.size + 4 ∨ c = s1.heap.objs.size + 2 ∨ c = s1.heap.objs.size + 3 ∨ c = s1.heap.objs.size ∨ c = s1.heap.objs.size + 1 := by simpa using hcm
  have hle : s1.heap.objs.size ≤ c := by
    rcases e' with z | z | z | z | z | z
    · rw [z, hes]; exact Nat.le_add_right _ _
    · rw [z]; exact Nat.le_add_right _ _
    · rw [z]; exact Nat.le_add_right _ _
    · rw [z]; exact Nat.le_add_right _ _
    · rw [z]; exact Nat.le_refl _
    · rw [z]; exact Nat.le_add_right _ _
  exact I1.fpOk hle (I1.hok.fresh hle)
def YEz (f g : Nat → Option V) : Nat → Hp → V → Hp → Prop := fun i H v H' => ∃ T U x y, v = .ref U ∧ H T = none ∧ upd H T (.tup [x, y]) U = none ∧ H' = upd (upd H T (.tup [x, y])) U (.tup [.int (i : Nat), .ref T]) ∧ f i = some x ∧ g i = some y
theorem walk_enumzip {bb : Bool} {K : PySem.W.Frag} {a b : Addr} {xs ys : List V} {n : Nat} (hb : bb = true → xs.length ≤ ys.length) (hn : n = min xs.length ys.length) : Walk (Itez bb K a b) n (fun H => SqL K H a xs ∧ SqV bb K H b ys) (YEz (fun i => xs[i]?) (fun i => ys[i]?)) := by
  subst hn
  refine ⟨fun i _ hi q => ?_, fun _ q => ⟨xs, ys, q.1, q.2, by
    cases bb
    · by_cases c : xs.length ≤ min xs.length ys.length
      · exact .inl c
      · exact .inr ⟨rfl, by omega⟩
    · have := hb rfl
      exact .inl (by omega)⟩, fun i H v H' _ q y => ?_⟩
  · have h1 : i < xs.length := by omega
    have h2 : i < ys.length := by omega
    exact ⟨xs, ys, xs[i], ys[i], q.1, q.2, by simp [h1], by simp [h2]⟩
  · obtain ⟨T, U, x, z, h1, h2, h3, h4, h5, h6⟩ := y
    exact ⟨T, U, x, z, h1, h2, h3, h4, h5 xs q.1, h6 ys q.2⟩
section
variable {C : Ctx} {a b tg : Expr}
def dEnumZip : List D → Res (List D)
  | [.lst l, .lst m] => .ok ((l.zip m).mapIdx fun i q => .tup [.int (i : Nat), .tup [q.1, q.2]])
  | [.lst l, .tup m] => if l.length ≤ m.length then .ok ((l.zip m).mapIdx fun i q => .tup [.int (i : Nat), .tup [q.1, q.2]]) else .stuck
  | _ => .stuck
theorem dEnumZip_ok {l m : List D} (h : dEnumZip l = .ok m) : ∃ a b, (l = [.lst a, .lst b] ∨ (l = [.lst a, .tup b] ∧ a.length ≤ b.length)) ∧ m = (a.zip b).mapIdx fun i q => .tup [.int (i : Nat), .tup [q.1, q.2]] := by
  unfold dEnumZip at h
  split at h
  · exact ⟨_, _, .inl rfl, (Res.ok.inj h).symm⟩
  · split at h
    · rename_i c
      exact ⟨_, _, .inr ⟨rfl, c⟩, (Res.ok.inj h).symm⟩
    · cases h
  · cases h
theorem dEnumZip_nx (l : List D) (x : Exc) : dEnumZip l ≠ .err x := by
  unfold dEnumZip
  split
  · exact fun h => nomatch h
  · split <;> exact fun h => nomatch h
  · exact fun h => nomatch h
def iEnumZipD (f : MA) : MA := fun e g => (f e g).bind fun p => (dEnumZip p.1).bind fun l => .ok (l, p.2)
theorem walkD_ez {own : Own} {F H : Hp} {σ : L2.St} {e : En} {g : Rng} {J : It} {n : Nat} {GG : Hp → Prop} {f1 f2 : Nat → Option V} {ds : List D} (S : SR C own F H σ e g) (w : Walk J n GG (YEz f1 f2)) (hn : ds.length = n) (hG : ∀ H', KeepN C own H H' → GG H')
    (hd : ∀ (i : Nat) x y, f1 i = some x → f2 i = some y → ∃ d1 d2, ds[i]? = some (.tup [.int (i : Nat), .tup [d1, d2]]) ∧ Rep C.g H (C.Al own) d1 x ∧ Rep C.g H (C.Al own) d2 y) : WalkD C own H J ds := by
  refine ⟨GG, _, by rw [hn]; exact w, hG, fun i H' x H'' hi k y => ?_⟩
  obtain ⟨T, U, u, v, rfl, nT, nU, rfl, e1, e2⟩ := y
  obtain ⟨d1, d2, h1, h2, h3⟩ := hd i u v e1 e2
  have s1 : Same H' (upd H' T (.tup [u, v])) := fun a o z => by rw [upd_ne (ne_of_none z nT)]; exact z
  have s2 : Same (upd H' T (.tup [u, v])) (upd (upd H' T (.tup [u, v])) U (.tup [.int (i : Nat), .ref T])) := fun a o z => by rw [upd_ne (ne_of_none z nU)]; exact z
  have up : ∀ {d : D} {v' : V}, Rep C.g H (C.Al own) d v' → Rep C.g (upd H' T (.tup [u, v])) (C.AW own H) d v' := fun r => ((rep_AW r).mono (k.keep S) fun a q _ => q).mono (.same s1) fun a q _ => q
  have r1 : Rep C.g (upd H' T (.tup [u, v])) (C.AW own H) (.tup [d1, d2]) (.ref T) := .tup_ (.inl (.inl upd_same)) (.cons (up h2) (.cons (up h3) .nil))
  have r2 := r1.mono (.same s2) fun a q _ => q
  exact ⟨fun a o z => s2 a o (s1 a o z), _, h1, .tup_ (.inl (.inl upd_same)) (.cons (.int_ _) (.cons r2 .nil))⟩
theorem di_enumzip {fs : MA} {x : Expr} (h : ∀ {t : TA}, PA C.X [a, b] t → PI C.X tg x (iEnumZip C.X.K t)) (ha : DA C [a, b] fs) : DI C tg x (iEnumZipD fs) :=
  pi_imp (h ha) fun σ H R ⟨own, F, e, g, S, o⟩ => ⟨own, F, e, g, S, OutI.bindA o fun l g1 H1 vs x1 S1 r1 o1 => by
    cases hz : dEnumZip l with
    | err y => exact (dEnumZip_nx _ _ hz).elim
    | stuck => simp only [hz, Res.bind] at o1; exact o1.elim
    | ok ds =>
      simp only [hz, Res.bind] at o1
      obtain ⟨l1, m, hl, rfl⟩ := dEnumZip_ok hz
      rcases hl with rfl | ⟨rfl, hl⟩
      · obtain ⟨v, w, rfl, rv, rw_⟩ := two_of r1
        obtain ⟨a1, xs, rfl, ha0, ha1, ha2⟩ := rv.toLst
        obtain ⟨b1, ys, rfl, hb0, hb1, hb2⟩ := rw_.toLst
        refine ⟨false, a1, b1, xs, ys, rfl, SqL.of ha1, SqL.of hb1, o1 H1 _ (.refl H1) S1 ?_⟩
        refine walkD_ez (n := min xs.length ys.length) S1 (walk_enumzip (bb := false) (fun z => nomatch z) rfl) (by simp [ha2.length, hb2.length]) (fun H' k => ⟨SqL.of (k _ _ ha1 ha0.2.1 ha0.2.2), SqL.of (k _ _ hb1 hb0.2.1 hb0.2.2)⟩) fun i u v e1 e2 => ?_
        obtain ⟨d1, h1, h2⟩ := ha2.getV e1
        obtain ⟨d2, h3, h4⟩ := hb2.getV e2
        refine ⟨d1, d2, ?_, h2, h4⟩
        rw [List.getElem?_mapIdx, (List.getElem?_zip_eq_some (z := (d1, d2))).mpr ⟨h1, h3⟩]; rfl
      · obtain ⟨v, w, rfl, rv, rw_⟩ := two_of r1
        obtain ⟨a1, xs, rfl, ha0, ha1, ha2⟩ := rv.toLst
        obtain ⟨b1, ys, rfl, hb1, hb2⟩ := rw_.toTup
        refine ⟨true, a1, b1, xs, ys, rfl, SqL.of ha1, hb1, o1 H1 _ (.refl H1) S1 ?_⟩
        refine walkD_ez (n := min xs.length ys.length) S1 (walk_enumzip (bb := true) (fun _ => by rw [← ha2.length, ← hb2.length]; exact hl) rfl) (by simp [ha2.length, hb2.length]) (fun H' k => ⟨SqL.of (k _ _ ha1 ha0.2.1 ha0.2.2), (k.keep S1).sqT hb1⟩) fun i u v e1 e2 => ?_
        obtain ⟨d1, h1, h2⟩ := ha2.getV e1
        obtain ⟨d2, h3, h4⟩ := hb2.getV e2
        refine ⟨d1, d2, ?_, h2, h4⟩
        rw [List.getElem?_mapIdx, (List.getElem?_zip_eq_some (z := (d1, d2))).mpr ⟨h1, h3⟩]; rfl⟩
variable {fa fb : ME} {pos : Pos}
def aRepL (a b : ME) : MA := fun e g => (a e g).bind fun p => (b e p.2).bind fun q => match p.1, q.1 with
  | .lst l, .int j => if 0 ≤ j ∧ j ≤ 1000 ∧ l.length * j.toNat ≤ 1000 then .ok ((List.replicate j.toNat l).flatten, q.2) else .stuck
  | _, _ => .stuck
theorem df_repL (ha : DE C a fa) (hb : DE C b fb) : DF C (.BinOp a .Mult b pos) (aRepL fa fb) := pe_imp (pe_op op_rep ha hb) fun σ H Q ⟨own, F, e, g, S, o⟩ => ⟨own, F, e, g, S, OutF.bindE o fun d g1 H1 v x1 S1 r1 o1 => ⟨own, F, e, g1, S1, OutF.bindE o1 fun d2 g2 H2 w x2 S2 r2 o2 => by
  cases d <;> cases d2 <;> first | exact o2.elim | skip
  rename_i i j
  obtain ⟨a, vs, rfl, h0, h1, h2⟩ := (S1.rep x2 r1).toLst
  by_cases hl : 0 ≤ j ∧ j ≤ 1000 ∧ i.length * j.toNat ≤ 1000
  · simp only [hl, and_self, if_true] at o2
    exact ⟨a, j, vs, rfl, r2.toInt, h1, by omega, by omega, by rw [← h2.length]; exact le_line hl.2.2, fun p hp => o2.newL S2 hp (repL_rep h2 _)⟩
  · simp only [hl, if_false] at o2
    exact o2.elim⟩⟩
end
end DL
set_option Elab.async false
set_option linter.all false
set_option maxRecDepth 100000
set_option maxHeartbeats 2000000
namespace DL
open PySem PySem.Spec PyProof.Rows L2
section
variable {C : Ctx} {a b tg : Expr}
end
section
variable {C : Ctx} {a b tg : Expr}
end
end DL
set_option Elab.async false
set_option linter.all false
set_option maxRecDepth 100000
set_option maxHeartbeats 2000000
namespace DL
open PySem PySem.Spec PySem.W PyProof.Rows L2 PySem.Builtin.ObjectAttr
theorem Bs.base : ∀ b : Bs, ∃ B i, ExcBaseFacts B b.new i b.tail
  | .ve => ⟨_, _, PySem.F.excBase_ValueError⟩
  | .le => ⟨_, _, PySem.F.excBase_LookupError⟩
  | .ze => ⟨_, _, PySem.F.excBase_ZeroDivisionError⟩
  | .ie => ⟨_, _, PySem.F.excBase_IndexError⟩
section
variable {X : Cx} {pins : List (Addr × Obj)} {σ : L2.St} {H : Hp} {s : Shared} {a C dx : Addr} {b : Bs} {f : Str} {y : V} {u : Value} {fs : List (Str × V)} {Q : Unit → Shared → Prop} {E : Value → Shared → Prop} {A : Around}
end
section
variable {P : Program} {w : World} {K : PySem.W.Frag} {mg : Str → Option Value} {base : Heap} {C fI : Addr} {b : Bs} {qual tag f x : Str} {st : Stmt} {fd : FuncData}
end
section
variable {X : Cx} {C fI : Addr} {b : Bs} {fd : FuncData} {ps : List Str} {sp : Sp} {x tag f : Str} {p pos : Pos}
end
section
variable {C : Ctx} {Ca fI : Addr} {b : Bs} {fd : FuncData} {x f : Str} {p pos rpos : Pos} {a : Expr} {fs : MA}
end
end DL
set_option Elab.async false
set_option linter.all false
set_option maxRecDepth 100000
set_option maxHeartbeats 2000000
namespace DL
open PySem PySem.Spec PySem.W PyProof.Rows L2 HotX
section
variable {prog : Program} {w : World} {A : Around} {E : Value → Shared → Prop} {s : Shared}
end
structure Cl where
  cs : List Value
  i : Nat
  ts : Addr → Value → Option Addr → TS
section
variable {X : Cx} {cs : List Value} {tst : Expr}
end
section
variable {X : Cx} {body : List Stmt} {h₀ : ExceptHandler} {hds : List ExceptHandler} {l : List Cl} {pos : Pos} {tb : WX → TS} {Wout : WX}
end
end DL
set_option Elab.async false
set_option linter.all false
set_option maxRecDepth 100000
set_option maxHeartbeats 2000000
namespace DL
open PySem PySem.Spec PySem.W PyProof.Rows L2 HotX
section
variable {P : Program} {w : World} {K : PySem.W.Frag} {mg : Str → Option Value} {base : Heap} {cm : Str → Option Addr} {tb : List (Addr × Str)}
end
end DL
namespace DL
open PySem PySem.Spec PySem.W PyProof.Rows L2 HotX
section
variable {X : Cx} {pins : List (Addr × Obj)} {σ : L2.St} {H HZ : Hp} {s s1 : Shared}
end
section
variable {C : Ctx} {fb : ME} {oc : Exc → Res D}
end
end DL
set_option Elab.async false
set_option linter.all false
set_option maxRecDepth 100000
set_option maxHeartbeats 2000000
namespace DL
open PySem PySem.Spec PySem.W PyProof.Rows L2 HotX
section
variable {X : Cx} {pins : List (Addr × Obj)} {σ : L2.St} {H HZ : Hp} {s s1 : Shared}
end
section
variable {C : Ctx} {fb : ME} {oc : Exc → Res D}
end
end DL
set_option Elab.async false
set_option linter.all false
set_option maxRecDepth 100000
set_option maxHeartbeats 2000000
namespace DL
open PySem PySem.Spec PySem.W PyProof.Rows L2 HotX
section
variable {X : Cx} {pins : List (Addr × Obj)} {σ : L2.St} {H HZ : Hp} {s s1 : Shared}
end
section
variable {C : Ctx} {fb : ME} {oc : Exc → Res D}
end
end DL
set_option Elab.async false
set_option linter.all false
set_option maxRecDepth 100000
set_option maxHeartbeats 2000000
namespace DL
open PySem PySem.Spec PySem.W PyProof.Rows L2 HotX
section
variable {X : Cx} {pins : List (Addr × Obj)} {σ : L2.St} {H HZ : Hp} {s s1 : Shared}
end
section
variable {C : Ctx} {fb : ME} {oc : Exc → Res D}
end
end DL
set_option Elab.async false
set_option linter.all false
set_option maxRecDepth 100000
set_option maxHeartbeats 2000000
namespace DL
open PySem PySem.Spec PyProof.Rows L2
section
variable {C : Ctx} {x b : Expr} {st : Stmt} {fa fb : ME}
end
end DL
set_option Elab.async false
set_option linter.all false
set_option maxRecDepth 100000
namespace DL
open PySem L2
section
variable {C : Ctx} {tg : Expr}
end
end DL
set_option Elab.async false
set_option linter.all false
set_option maxRecDepth 100000
namespace DL
open PySem PySem.Spec PyProof.Rows L2
def putI (l : List (List Key × Int)) (k : List Key) (z : Int) : List (List Key × Int) :=
  if (l.any fun p => decide (p.1 = k)) = true then l.map (fun p => if p.1 = k then (p.1, z) else p) else l ++ [(k, z)]
section
variable {g : G} {H : Hp} {A : Addr → Prop}
end
section
variable {C : Ctx} {x y : Expr} {fa fb : ME} {pos : Pos}
end
def Rng.put (b : Bool) (ks : List Key) (z : Int) (g : Rng) : Rng := if b then { g with pc := putI g.pc ks z } else { g with pd := putI g.pd ks z }
section
variable {C : Ctx} {y : Str} {k x : Expr} {fk fv : ME} {i : Nat} {Ca : Addr} {p1 p2 p3 pos : Pos} {own : Own} {F H : Hp} {σ : L2.St} {e : En} {g : Rng}
end
end DL
set_option Elab.async false
set_option linter.all false
set_option maxRecDepth 100000
namespace DL
open PySem PySem.Spec PyProof.Rows L2
def valT (m : List (List Key × D)) (k : List Key) : Option D := (m.find? fun p => decide (p.1 = k)).map (·.2)
section
variable {C : Ctx}
end
section
variable {P : Program} {w : World} {K : PySem.W.Frag} {mg : Str → Option Value} {base : Heap} {cm : Str → Option Addr} {tb : List (Addr × Str)}
end
section
variable {C : Ctx} {x1 x2 x3 y : Expr} {f1 f2 f3 : ME} {pos p : Pos} {k : Nat} {f : Addr} {fd : FuncData} {ps : List Str} {n : Str} {es : List Expr} {fs ft : MA}
end
end DL
set_option Elab.async false
set_option linter.all false
set_option maxRecDepth 100000
namespace DL
open PySem PySem.Spec PyProof.Rows L2
section
variable {C : Ctx} {own : Own} {F H H' : Hp} {σ : L2.St} {e : En} {g : Rng} {r a b Ca dx : Addr} {i : Nat}
end
end DL
set_option Elab.async false
set_option linter.all false
set_option maxRecDepth 100000
namespace DL
open PySem PySem.Spec PyProof.Rows L2
section
variable {P : Program} {w : World} {K : PySem.W.Frag} {mg : Str → Option Value} {base : Heap}
end
section
variable {C : Ctx} {x nm qual : Str} {st : Stmt} {dvs : List V} {kd : List (Str × V)} {f Ca : Addr} {k : Nat} {ps : List Str} {p pos : Pos}
end
section
variable {C : Ctx} {x1 x2 x3 y : Expr} {f1 f2 f3 : ME} {pos p : Pos} {k : Nat} {f : Addr} {ps : List Str} {n : Str} {es : List Expr} {ft : MA}
end
end DL
set_option Elab.async false
set_option linter.all false
set_option maxRecDepth 100000
set_option maxHeartbeats 2000000
namespace DL
open PySem PySem.Spec PyProof.Rows L2
section
variable {C : Ctx}
end
section
variable {C : Ctx} {a : Expr} {fa : ME} {p pos : Pos} {cls nm qual : Str} {Ca f : Addr} {k : Nat} {st : Stmt} {dvs : List V} {kd : List (Str × V)} {ps : List Str} {mm : List D → Res D}
end
end DL
set_option Elab.async false
set_option linter.all false
set_option maxRecDepth 100000
namespace DL
open PySem PySem.Spec PyProof.Rows L2
section
variable {prog : Program} {w : World} {A : Around} {E : Value → Shared → Prop} {s : Shared}
end
section
variable {prog : Program} {w : World} {A : Around} {E : Value → Shared → Prop} {s : Shared}
end
end DL
set_option Elab.async false
set_option linter.all false
set_option maxRecDepth 100000
namespace DL
open PySem PySem.Spec PyProof.Rows L2
section
variable {prog : Program} {w : World} {A : Around} {s : Shared} {R : Result → Shared → Prop} {I d : Addr} {n : Nat} {St : Nat → Heap → Prop} {Mid : Nat → Value → Value → Heap → Prop} {Fin' : Heap → Prop}
end
section
variable {prog : Program} {w : World} {A : Around} {E : Value → Shared → Prop} {s : Shared} {n : Nat} {St : Nat → Heap → Prop} {Mid : Nat → Value → Value → Heap → Prop} {Fin' : Heap → Prop}
end
end DL
set_option Elab.async false
set_option linter.all false
set_option maxRecDepth 100000
namespace DL
open PySem PySem.Spec PyProof.Rows L2
structure Zz where
  bb : Bool
  z : Addr
  TI : Addr
  TO : Addr
  i1 : Addr
  l1 : Addr
  z2 : Addr
  TI2 : Addr
  TO2 : Addr
  j1 : Addr
  j2 : Addr
  m1 : Addr
  m2 : Addr
section
variable {prog : Program} {w : World} {A : Around} {E : Value → Shared → Prop} {s : Shared}
end
end DL
set_option Elab.async false
set_option linter.all false
set_option maxRecDepth 100000
namespace DL
open PySem PySem.Spec PyProof.Rows L2
section
variable {prog : Program} {w : World} {K : Type} [DecidableEq K]
variable {A : Around} {h0 : Heap} {E : Value → Shared → Prop} {s : Shared} {knd : KeyKind prog w K} {p : Zz} {d : Addr} {xs ys zs : Array Value} {ks : List K} {i : Nat}
end
end DL
set_option Elab.async false
set_option linter.all false
set_option maxRecDepth 100000
namespace DL
open PySem PySem.Spec PyProof.Rows L2
section
variable {prog : Program} {w : World} {K : Type} [DecidableEq K] {A : Around} {E : Value → Shared → Prop} {s : Shared} {knd : KeyKind prog w K} {xs ys zs : Array Value} {ks : List K}
end
end DL
set_option Elab.async false
set_option linter.all false
set_option maxRecDepth 100000
namespace DL
open PySem PySem.Spec PyProof.Rows L2
section
variable {C : Ctx} {a b c : Expr} {fa : ME} {fs : MA} {p p2 p3 pos pos2 pos3 : Pos}
end
end DL
set_option Elab.async false
set_option linter.all false
set_option maxRecDepth 100000
namespace DL
open PySem PySem.Spec PyProof.Rows L2
section
variable {C : Ctx} {a : Expr} {fs : MA} {p pos : Pos}
end
end DL
set_option Elab.async false
set_option linter.all false
set_option maxRecDepth 100000
namespace DL
open PySem PySem.Spec PyProof.Rows L2
section
variable {C : Ctx} {a b : Expr} {fa fb : ME} {pos : Pos} (ha : DE C a fa) (hb : DE C b fb)
include ha hb
end
end DL
set_option Elab.async false
set_option linter.all false
set_option maxRecDepth 100000
namespace DL
open PySem PySem.Spec PyProof.Rows L2
def Ctx.h0 (C : Ctx) (H0 : Hp) : Ctx := { C with H0 := H0 }
section
variable {C : Ctx}
variable {tg iter elt : Expr} {pos : Pos} {ifs : List Expr} {scope : Scope} {ts vs : List Nat} {own : List (Str × Nat)} {tf : TgF} {ft : MT} {fe : ME}
end
end DL
set_option Elab.async false
set_option linter.all false
set_option maxRecDepth 100000
namespace DL
open PySem PySem.Spec PyProof.Rows L2
section
variable {C : Ctx} {a b : Expr} {fa fb : ME} {fs : MA} {p pos kpos : Pos}
end
section
variable {C : Ctx} {elt iter tg : Expr} {ifs : List Expr} {scope : Scope} {ts vs : List Nat} {own : List (Str × Nat)} {fi : MA} {tf : TgF} {ft : MT} {fe : ME} {i : Nat} {y : Str} {py spos pos : Pos}
end
end DL
set_option Elab.async false
set_option linter.all false
set_option maxRecDepth 100000
namespace DL
open PySem PySem.Spec PyProof.Rows L2
abbrev RV := Ctx → Hp → D → V → Prop
def OutSR (R : RV) (C : Ctx) (F : Hp) (r : Res Out) (D : Ends) : Prop := match r with
  | .ok (.nx e' g') => ∀ own' σ' H', SR C own' F H' σ' e' g' → D.nx σ' H'
  | .ok (.bk e' g') => ∀ own' σ' H', SR C own' F H' σ' e' g' → D.bk σ' H'
  | .ok (.ct e' g') => ∀ own' σ' H', SR C own' F H' σ' e' g' → D.ct σ' H'
  | .ok (.rt d g') => ∀ own' σ' e' H' v, SR C own' F H' σ' e' g' → R C H' d v → D.rt v H'
  | .err x => ∀ own' σ' e' g' H' c dd, SR C own' F H' σ' e' g' → RepX C.g H' (C.Al own') x c dd → C.W c dd σ' H'
  | .stuck => False
def tDSR (R : RV) (C : Ctx) (f : MS) : TS := fun D σ H => ∃ own F e g, SR C own F H σ e g ∧ OutSR R C F (f e g) D
def DSR (R : RV) (C : Ctx) (x : Stmt) (f : MS) : Prop := PS C.X x (tDSR R C f)
def DSRs (R : RV) (C : Ctx) (x : List Stmt) (f : MS) : Prop := PSs C.X x (tDSR R C f)
section
variable {R : RV} {C : Ctx} {x a b : Expr} {st : Stmt} {rest sts : List Stmt} {fa fb : ME} {f1 f2 : MS} {fl : MA} {pos : Pos}
theorem dsr_of (h : DS C st f1) : DSR R C st (sNoRt f1) := ps_imp h fun D σ H ⟨own, F, e, g, S, o⟩ => ⟨own, F, e, g, S, by
  unfold sNoRt at o
  cases hf : f1 e g with
  | ok u =>
    rw [hf] at o
    cases u with
    | nx e' g' => exact o
    | rt d g' => exact o.elim
    | bk e' g' => exact o
    | ct e' g' => exact o
  | err y => rw [hf] at o; exact o
  | stuck => rw [hf] at o; exact o.elim⟩
theorem dsrs_nil : DSRs R C [] sNx := pss_imp pss_nil fun D σ H ⟨own, F, e, g, S, o⟩ => o _ _ _ S
theorem dsrs_cons (h1 : DSR R C st f1) (h2 : DSRs R C rest f2) : DSRs R C (st :: rest) (sSeq f1 f2) := pss_imp (pss_cons h1 h2) fun D σ H ⟨own, F, e, g, S, o⟩ => ⟨own, F, e, g, S, by
  unfold sSeq at o
  cases hf : f1 e g with
  | ok u =>
    rw [hf] at o
    cases u with
    | nx e' g' => exact fun own' σ' H' S' => ⟨own', F, e', g', S', o⟩
    | rt d g' => exact o
    | bk e' g' => exact o
    | ct e' g' => exact o
  | err y => rw [hf] at o; exact o
  | stuck => rw [hf] at o; exact o.elim⟩
theorem dsrs_one (h1 : DSR R C st f1) : DSRs R C [st] f1 := pss_one h1
theorem OutT.bindSR {own : Own} {F H : Hp} {σ : L2.St} {e : En} {r : Res (Bool × Rng)} {k : Bool × Rng → Res Out} {D' : Ends} {Q1 : Bool → Hp → Prop} (h : OutSR R C F (r.bind k) D')
    (hq : ∀ d g1 H1, ExtI C H H1 → SR C own F H1 σ e g1 → OutSR R C F (k (d, g1)) D' → Q1 d H1) : OutT C own F σ e H r Q1 := by
  cases r with
  | ok a => exact fun H1 x1 S1 => hq a.1 a.2 H1 x1 S1 h
  | err y => exact fun H' c dd x ⟨g', S'⟩ r => h own σ e g' H' c dd S' r
  | stuck => exact h
theorem dsr_if {c : Expr} {tc : MT} {sa sb : List Stmt} (hc : DT C c tc) (ha : DSRs R C sa f1) (hb : DSRs R C sb f2) : DSR R C (.If c sa sb pos) (sIf tc f1 f2) := ps_imp (ps_if hc ha hb) fun D σ H ⟨own, F, e, g, S, o⟩ => ⟨own, F, e, g, S, OutT.bindSR o fun d g1 H1 x1 S1 o1 => by
  cases d with
  | true => exact ⟨own, F, e, g1, S1, o1⟩
  | false => exact ⟨own, F, e, g1, S1, o1⟩⟩
end
def fr (ps : List (Option Addr)) : List Addr := ps.filterMap id
inductive PartR (g : G) (B : Addr → Prop) (H : Hp) : List D → List V → List (Option Addr) → Prop
  | nil : PartR g B H [] [] []
  | lst {l : List D} {p : Addr} {vs : List V} {ds : List D} {us : List V} {ps : List (Option Addr)} (hp : H p = some (.lst vs)) (r : RepL g H B l vs) (h : PartR g B H ds us ps) : PartR g B H (.lst l :: ds) (.ref p :: us) (some p :: ps)
  | tr {d : D} {u : V} {ds : List D} {us : List V} {ps : List (Option Addr)} (r : Rep g H B d u) (h : PartR g B H ds us ps) : PartR g B H (d :: ds) (u :: us) (none :: ps)
theorem PartR.mono {g : G} {B B' : Addr → Prop} {H H' : Hp} (k : Keep B H H') (hA : ∀ a, B a → (∃ o, H a = some o) → B' a) {ds : List D} {us : List V} {ps : List (Option Addr)} (hk : ∀ p ∈ fr ps, ∀ o, H p = some o → H' p = some o) (h : PartR g B H ds us ps) : PartR g B' H' ds us ps := by
  induction h with
  | nil => exact .nil
  | lst hp r h ih => exact .lst (hk _ (by simp [fr]) _ hp) (r.mono k hA) (ih fun q hq => hk q (by simp only [fr, List.filterMap_cons, id] at hq ⊢; exact List.mem_cons_of_mem _ hq))
  | tr r h ih => exact .tr (r.mono k hA) (ih hk)
theorem PartR.toL {g : G} {B B' : Addr → Prop} {H : Hp} (hB : ∀ a, B a → B' a) {ds : List D} {us : List V} {ps : List (Option Addr)} (hk : ∀ p ∈ fr ps, B' p) (h : PartR g B H ds us ps) : RepL g H B' ds us := by
  induction h with
  | nil => exact .nil
  | lst hp r h ih => exact .cons (.lst_ (hk _ (by simp [fr])) hp (r.mono (.same fun _ _ z => z) fun a q _ => hB a q)) (ih fun q hq => hk q (by simp only [fr, List.filterMap_cons, id] at hq ⊢; exact List.mem_cons_of_mem _ hq))
  | tr r h ih => exact .cons (r.mono (.same fun _ _ z => z) fun a q _ => hB a q) (ih hk)
def NewT (mk : List Bool) : RV := fun C H d v => ∃ ds t us ps, d = .tup ds ∧ v = .ref t ∧ SqT C.X.K H t us ∧ ps.map Option.isSome = mk ∧ (fr ps).Nodup ∧ (∀ p ∈ fr ps, C.H0 p = none) ∧ PartR C.g (fun a => C.AR a ∧ a ∉ fr ps) H ds us ps
section
variable {C : Ctx} {x y z : Expr} {fl : MA} {pos tpos : Pos} {kk : Nat}
theorem SR.freshH0 {own : Own} {F H : Hp} {σ : L2.St} {e : En} {g : Rng} (S : SR C own F H σ e g) {p : Addr} (n : H p = none) : C.H0 p = none := by
  cases hz : C.H0 p with
  | none => rfl
  | some ob =>
    by_cases hi : C.io p
    · obtain ⟨ob2, q, _⟩ := S.io p hi
      rw [n] at q; cases q
    · have := S.h0 p ob hz hi
      rw [n] at this; cases this
theorem same_new {H : Hp} {t : Addr} {o : HO} (n : H t = none) : Same H (upd H t o) := fun a u z => by rw [upd_ne (ne_of_none z n)]; exact z
theorem OutF.bindSR {R : RV} {own : Own} {F H : Hp} {σ : L2.St} {e : En} {r : Res (List D × Rng)} {k : List D × Rng → Res Out} {D' : Ends} {Q1 : VK} (h : OutSR R C F (r.bind k) D')
    (hq : ∀ l g1 H' p vs, ExtI C H H' → H p = none → H' p = some (.lst vs) → SR C own F H' σ e g1 → RepL C.g H' (fun a => C.Al own a ∧ a ≠ p) l vs → OutSR R C F (k (l, g1)) D' → Q1 (.ref p) H') : OutF C own F σ e H r Q1 := by
  cases r with
  | ok a => exact fun H' p vs x n hp S' r' => hq a.1 a.2 H' p vs x n hp S' r' h
  | err y => exact fun H' c dd x ⟨g', S'⟩ r => h own σ e g' H' c dd S' r
  | stuck => exact h
end
def OutDT (mk : List Bool) (g : G) (H : Hp) (A : Addr → Prop) (E : XK) (r : Res D) (Q : VK) : Prop := match r with
  | .ok (.tup ds) => ∀ H' t us ps, SameT g.tb H H' → Tabs g.tb H' → SqT g.K H' t us → ps.map Option.isSome = mk → (fr ps).Nodup → (∀ p ∈ fr ps, H p = none) → PartR g (fun a => (A a ∨ H a = none) ∧ a ∉ fr ps) H' ds us ps → Q (.ref t) H'
  | .ok _ => False
  | .err x => ∀ H' c dd, SameT g.tb H H' → Tabs g.tb H' → RepX g H' (fun a => A a ∨ H a = none) x c dd → E c dd H'
  | .stuck => False
def spT (mk : List Bool) (g : G) (m : List D → Res D) : Sp := fun vs H Q E => ∃ (A : Addr → Prop) (ds : List D), RepL g H A ds vs ∧ Tabs g.tb H ∧ (∀ a, A a → ∀ p ∈ g.tb, p.1 ≠ a) ∧ OutDT mk g H A E (m ds) Q
def onlyT (r : Res D) : Res D := match r with
  | .ok (.tup l) => .ok (.tup l)
  | .err x => .err x
  | _ => .stuck
def runT (n k : Nat) (b : MS) (ds : List D) : Res D := onlyT (runD n k b ds)
theorem runT_t {n k : Nat} {b : MS} {ds : List D} {d : D} (h : runT n k b ds = .ok d) : ∃ l, d = .tup l := by
  unfold runT at h
  cases hr : runD n k b ds with
  | ok d' => rw [hr] at h; cases d' <;> first | (cases h; done) | (cases h; exact ⟨_, rfl⟩)
  | err x => rw [hr] at h; cases h
  | stuck => rw [hr] at h; cases h
theorem spT_of {mk : List Bool} {g : G} {m : List D → Res D} (hm : ∀ ds d, m ds = .ok d → ∃ l, d = .tup l) {vs : List V} {H : Hp} {Q : VK} {E : XK} (h : spD g m vs H Q E) : spT mk g m vs H Q E := by
  obtain ⟨A, ds, r, t, hA, o⟩ := h
  refine ⟨A, ds, r, t, hA, ?_⟩
  cases hr : m ds with
  | ok d =>
    obtain ⟨l, rfl⟩ := hm ds d hr
    rw [hr] at o
    exact fun H' t us ps s tt hq _ _ n pr => o H' _ s tt (.tup_ hq (pr.toL (fun a q => q.1) fun p hp => .inr (n p hp)))
  | err x => rw [hr] at o; exact o
  | stuck => rw [hr] at o; exact o
section
variable {P : Program} {w : World} {K : PySem.W.Frag} {mg : Str → Option Value} {base : Heap} {cm : Str → Option Addr} {tb : List (Addr × Str)}
theorem CalD.ofT {mk : List Bool} {k : Nat} {x : Str} {st : Stmt} {dvs : List V} {kws : List (Str × V)} {f : Addr} {ps : List Str} {g : G} {m : List D → Res D} (h : CalD P w K mg base k x st dvs kws f ps (spT mk g m)) (hm : ∀ ds d, m ds = .ok d → ∃ l, d = .tup l) : CalD P w K mg base k x st dvs kws f ps (spD g m) := by
  obtain ⟨fd, F1, F2⟩ := h
  exact ⟨fd, F1.imp fun vs H Q E => spT_of hm, F2⟩
theorem fn_spT {mk : List Bool} {x qual : Str} {st : Stmt} {dvs : List V} {kws : List (Str × V)} {f : Addr} {fd : FuncData} {N ps : List Str} {k : Nat} (F : FunD K x qual (defArgs st) (defBody st) (defScope st) dvs kws f fd) (S : FnScope N ps (defScope st)) (b : MS)
    (body : ∀ (cdv : Value) (A : Around) (outer : List PySem.Env) (s : Shared) (H : Hp) (E : XK) (A0 : Addr → Prop), Room k (A.deeper (envOfC qual (defScope st) s.heap.objs.size f cdv)) → DSRs (NewT mk) (ctxD P w K mg base cm tb N qual (defScope st) f cdv A outer s H E A0 none) (defBody st) b) :
    FnOk P w K mg base (L2N.CX P w) (k + 1) f fd ps (spT mk ⟨K, cm, tb⟩ (runT N.length ps.length b)) := by
  have len : ∀ vs H Q E, spT mk ⟨K, cm, tb⟩ (runT N.length ps.length b) vs H Q E → vs.length = ps.length := fun vs H Q E ⟨A0, ds, r, _, _, o⟩ => by
    unfold runT runD at o
    split at o
    · rename_i h; rw [← r.length]; exact h
    · exact o.elim
  refine F.ok S len fun cdv A outer s H vs Q E hr h => ?_
  have hlen := len vs H Q E h
  obtain ⟨A0, ds, r, tt, hA, o⟩ := id h
  refine ⟨_, body cdv A outer s H E A0 hr, ?_⟩
  have hd : ds.length = ps.length := by rw [r.length, hlen]
  unfold runT runD at o
  rw [if_pos hd] at o
  let C : Ctx := ctxD P w K mg base cm tb N qual (defScope st) f cdv A outer s H E A0 none
  have S0 : SR C (fun _ => none) (fun _ => none) H (L2.start N vs) (env0 N.length ds) g0 := sr_start (C := C) (by rw [hlen]; exact pre_le S) r tt hA rfl rfl
  have nio : ∀ a, C.io a → ∃ p ∈ tb, p.1 = a := fun a h => Ctx.io_no rfl rfl h
  have kp : ∀ {own' : Own} {F' H' : Hp} {σ' : L2.St} {e' : En} {g' : Rng}, SR C own' F' H' σ' e' g' → SameT tb H H' := fun S' a ob z n => S'.h0 a ob z fun hi => by
    obtain ⟨p, hp, e⟩ := nio a hi
    exact n p hp e
  refine ⟨fun _ => none, fun _ => none, env0 N.length ds, g0, S0, ?_⟩
  show OutSR (NewT mk) C _ (b (env0 N.length ds) g0) _
  cases hb : b (env0 N.length ds) g0 with
  | ok u =>
    rw [hb] at o
    cases u with
    | nx e g => exact o.elim
    | rt d g =>
      cases d <;> first | exact o.elim | (intro own' σ' e' H' v S' hw; obtain ⟨_, _, _, _, e1, _⟩ := hw; cases e1; done) | skip
      intro own' σ' e' H' v S' ⟨ds', t, us, ps', e1, e2, hq, hmk, nd, h0, pr⟩
      cases e1
      rw [e2]
      exact o H' t us ps' (kp S') S'.tb hq hmk nd h0 (pr.mono (.same fun _ _ z => z) (fun a q _ => ⟨q.1.1, q.2⟩) fun _ _ _ z => z)
    | bk e g => exact o.elim
    | ct e g => exact o.elim
  | err y =>
    rw [hb] at o
    exact fun own' σ' e' g' H' c dd S' ⟨Ca, d, ws, h1, h2, h3, h4, h5, h6⟩ => o H' c dd (kp S') S'.tb ⟨Ca, d, ws, h1, h2, h3, h4, h5, h6.mono (.same fun _ _ z => z) fun a q _ => q.1⟩
  | stuck => rw [hb] at o; exact o.elim
end
def OutTu (mk : List Bool) (C : Ctx) (own : Own) (F : Hp) (σ : L2.St) (e : En) (H : Hp) (r : Res (List D × Rng)) (Q : VK) : Prop := match r with
  | .ok (ds, g1) => ∀ H' t us ps, ExtI C H H' → SqT C.X.K H' t us → ps.map Option.isSome = mk → (fr ps).Nodup → (∀ p ∈ fr ps, H p = none) → SR C own F H' σ e g1 → PartR C.g (fun a => C.Al own a ∧ a ∉ fr ps) H' ds us ps → Q (.ref t) H'
  | .err x => ∀ H' c dd, ExtI C H H' → (∃ g', SR C own F H' σ e g') → RepX C.g H' (C.Al own) x c dd → C.W c dd σ H'
  | .stuck => False
def tDTu (mk : List Bool) (C : Ctx) (f : MA) : TE := fun σ H Q => ∃ own F e g, SR C own F H σ e g ∧ OutTu mk C own F σ e H (f e g) Q
def DTu (mk : List Bool) (C : Ctx) (x : Expr) (f : MA) : Prop := PE C.X x (tDTu mk C f)
def aCallT (m : List D → Res D) (fs : MA) : MA := fun e g => (fs e g).bind fun p => match m p.1 with
  | .ok (.tup l) => .ok (l, p.2)
  | .err x => .err x
  | _ => .stuck
section
variable {C : Ctx} {a : Expr} {es : List Expr} {fs : MA} {n : Str} {k : Nat} {f : Addr} {fd : FuncData} {ps : List Str} {p pos : Pos} {mk : List Bool}
theorem OutTu.bindA {own : Own} {F H : Hp} {σ : L2.St} {e : En} {r : Res (List D × Rng)} {k : List D × Rng → Res (List D × Rng)} {Q : VK} {Q1 : List V → Hp → Prop} (h : OutTu mk C own F σ e H (r.bind k) Q)
    (hq : ∀ ds g1 H1 vs, ExtI C H H1 → SR C own F H1 σ e g1 → RepL C.g H1 (C.Al own) ds vs → OutTu mk C own F σ e H1 (k (ds, g1)) Q → Q1 vs H1) : OutA C own F σ e H r Q1 := by
  cases r with
  | ok q =>
    obtain ⟨ds, g1⟩ := q
    intro H1 vs x1 S1 r1
    refine hq ds g1 H1 vs x1 S1 r1 ?_
    have h' : OutTu mk C own F σ e H (k (ds, g1)) Q := h
    cases hk : k (ds, g1) with
    | ok q2 =>
      rw [hk] at h'
      exact fun H' t us ps x hq' hm nd hn S r => h' H' t us ps (x1.trans x) hq' hm nd (fun p hp => by
        cases hz : H p with
        | none => rfl
        | some o =>
          have fre := hn p hp
          by_cases hi : C.io p
          · obtain ⟨o2, z, _⟩ := S1.io p hi
            rw [fre] at z; cases z
          · have := x1 p o hz hi
            rw [fre] at this; cases this) S r
    | err y => rw [hk] at h'; exact fun H' c dd x => h' H' c dd (x1.trans x)
    | stuck => rw [hk] at h'; exact h'
  | err y => exact fun H' c dd x => h H' c dd x
  | stuck => exact h
theorem dtu_call {m : List D → Res D} (FF : FnOk C.X.prog C.X.w C.X.K C.X.mg C.X.base (L2N.CX C.X.prog C.X.w) k f fd ps (spT mk C.g m)) (hr : Room k C.X.A) (tk : L2N.Takes C.X C.W) (hm : C.X.mg n = some (.ref f)) (hk : PySem.W.keepIn C.X.K (.ref f) = true) (hb : L2.Binds C.X.K fd ps [])
    (ha : DA C (a :: es) fs) (hg : Gl C.X n := by rfl) (hdb : (n == ("__debug__" : Str)) = false := by decide) (he : starEach (a :: es) C.X.env = (false, eval a C.X.env) :: starEach es C.X.env := by rfl) (hpl : (backTo pos (starEach es C.X.env)).any (·.1) = false := by rfl) :
    DTu mk C (.Call (.Name n p) (a :: es) [] pos) (aCallT m fs) :=
  pe_imp (pe_callSD (E := WE C.W) (dvs := []) FF hr hg hm hk hb .nil (fun σ => L2N.passAt tk σ) ha hdb he hpl) fun σ H Q ⟨own, F, e, g, S, o⟩ => ⟨own, F, e, g, S, OutTu.bindA o fun l g1 H1 vs x1 S1 r1 o1 => by
    refine ⟨C.Al own, l, by rw [List.append_nil]; exact r1, S1.tb, Al_tb, ?_⟩
    have up : ∀ {a : Addr}, (C.Al own a ∨ H1 a = none) → C.Al own a := fun q => q.elim id S1.fresh
    show OutDT _ _ _ _ _ (m l) _
    have o2 : OutTu mk C own F σ e H1 (match m l with | .ok (.tup l) => .ok (l, g1) | .err x => .err x | _ => .stuck) Q := o1
    cases hml : m l with
    | ok d =>
      rw [hml] at o2
      cases d <;> first | exact o2.elim | skip
      exact fun H' t us ps s tt hq hmk nd n r => o2 H' t us ps (S1.call s tt).1 hq hmk nd n (S1.call s tt).2 (r.mono (.same fun _ _ z => z) (fun a q _ => ⟨up q.1, q.2⟩) fun _ _ _ z => z)
    | err y =>
      rw [hml] at o2
      exact fun H' c dd s t ⟨Ca, d, ws, h1, h2, h3, h4, h5, h6⟩ => o2 H' c dd (S1.call s t).1 ⟨g1, (S1.call s t).2⟩ ⟨Ca, d, ws, h1, h2, h3, h4, h5, h6.mono (.same fun _ _ z => z) fun a q _ => up q⟩
    | stuck => rw [hml] at o2; exact o2.elim⟩
theorem dCallT {m : List D → Res D} (FF : Cal C.X.prog C.X.w C.X.K C.X.mg C.X.base k f ps (spT mk C.g m)) (hr : Room k C.X.A) (tk : L2N.Takes C.X C.W) (hm : C.X.mg n = some (.ref f)) (hk : PySem.W.keepIn C.X.K (.ref f) = true)
    (ha : DA C (a :: es) fs) (hg : Gl C.X n := by rfl) (hdb : (n == ("__debug__" : Str)) = false := by decide) (he : starEach (a :: es) C.X.env = (false, eval a C.X.env) :: starEach es C.X.env := by rfl) (hpl : (backTo pos (starEach es C.X.env)).any (·.1) = false := by rfl) :
    DTu mk C (.Call (.Name n p) (a :: es) [] pos) (aCallT m fs) := by
  obtain ⟨fd, FF, hb⟩ := FF
  exact dtu_call FF hr tk hm hk hb ha hg hdb he hpl
end
section
variable {C : Ctx} {a : Expr} {st : Stmt} {fl : MA}
end
theorem OutP.bindFF {C : Ctx} {own : Own} {F H : Hp} {σ : L2.St} {e : En} {r : Res (Option Int × Rng)} {k : Option Int × Rng → Res (List D × Rng)} {Q : VK} {Q1 : Option Int → Hp → Prop} (_ : True) (h : OutF C own F σ e H (r.bind k) Q)
    (hq : ∀ d g1 H1, ExtI C H H1 → SR C own F H1 σ e g1 → OutF C own F σ e H1 (k (d, g1)) Q → Q1 d H1) : OutP C own F σ e H r Q1 := by
  cases r with
  | ok a =>
    obtain ⟨d, g1⟩ := a
    intro H1 x S
    refine hq d g1 H1 x S ?_
    have h' : OutF C own F σ e H (k (d, g1)) Q := h
    cases hk : k (d, g1) with
    | ok a =>
      rw [hk] at h'
      exact fun H2 p vs x2 n => h' H2 p vs (x.trans x2) (by
        cases hz : H p with
        | none => rfl
        | some o =>
          by_cases hi : C.io p
          · obtain ⟨o2, z, _⟩ := S.io p hi
            rw [n] at z; cases z
          · have := x p o hz hi
            rw [n] at this; cases this)
    | err y =>
      rw [hk] at h'
      exact fun H2 c dd x2 => h' H2 c dd (x.trans x2)
    | stuck => rw [hk] at h'; exact h'
  | err y => exact h
  | stuck => exact h
def aSl (a : ME) (l h : MP) : MA := fun e g => (a e g).bind fun p => (l e p.2).bind fun q => (h e q.2).bind fun r => match p.1 with
  | .lst z => .ok (cutD z q.1 r.1, r.2)
  | _ => .stuck
theorem df_sl {C : Ctx} {a : Expr} {fa : ME} {lo hi : Option Expr} {fl fh : MP} {p2 pos : Pos} (ha : DE C a fa) (hl : DP C lo fl) (hh : DP C hi fh) : DF C (.Subscript a (.Slice lo hi none p2) pos) (aSl fa fl fh) :=
  pe_imp (pe_slice sl_list ha hl hh) fun σ H Q ⟨own, F, e, g, S, o⟩ => ⟨own, F, e, g, S, OutF.bindE o fun d g1 H1 v x1 S1 r1 o1 => ⟨own, F, e, g1, S1, OutP.bindFF trivial o1 fun l g2 H2 x2 S2 o2 => ⟨own, F, e, g2, S2, OutP.bindFF trivial o2 fun h g3 H3 x3 S3 o3 => by
    have r3 := S2.rep x3 (S1.rep x2 r1)
    cases d <;> first | exact o3.elim | skip
    rename_i z
    obtain ⟨a, vs, rfl, h3, h4, h5⟩ := r3.toLst
    exact ⟨a, vs, rfl, SqL.of h4, fun p hp => OutF.newL S3 o3 hp (cut_rep h5 l h)⟩⟩⟩⟩
end DL
set_option Elab.async false
set_option linter.all false
set_option maxRecDepth 100000
namespace DL
open PySem PySem.Spec PyProof.Rows L2
section
variable {R : RV} {C : Ctx} {x y tg : Expr} {st : Stmt} {f1 : MS} {fl : MA} {pos tpos : Pos} {kk : Nat}
theorem OutI.bindSR {own : Own} {F H : Hp} {σ : L2.St} {e : En} {r : Res (List D × Rng)} {k : List D × Rng → Res Out} {D' : Ends} {P : It → Hp → Prop} (h : OutSR R C F (r.bind k) D')
    (hq : ∀ ds g1 H1 J, ExtI C H H1 → SR C own F H1 σ e g1 → WalkD C own H1 J ds → OutSR R C F (k (ds, g1)) D' → P J H1) : OutI C own F σ e H r P := by
  cases r with
  | ok a =>
    obtain ⟨d, g1⟩ := a
    exact fun H1 J x S w => hq d g1 H1 J x S w h
  | err y => exact fun H' c dd x ⟨g', S⟩ r => h _ _ _ _ _ _ _ S r
  | stuck => exact h
theorem dsr_for {iter : Expr} {body : List Stmt} {fi : MA} {ts : List Nat} {tf : TgF} {fb' : MS} (h : ∀ {wi : TI} {gt : TG} {tb : TS}, PI C.X tg iter wi → PG C.X tg gt → PSs C.X body tb → PS C.X st (tFor wi gt tb)) (hi : DI C tg iter fi) (hg : DG C tg ts tf) (hb : DSRs R C body fb') : DSR R C st (sFor fi tf fb') :=
  ps_imp (h hi hg hb) fun D' σ H ⟨own, F, e, g, S, o⟩ => ⟨own, F, e, g, S, OutI.bindSR o fun ds g1 H1 J x1 S1 w o1 => by
    obtain ⟨GG, Y, wk, hG, hY⟩ := w
    have hF : ∀ a o, F a = some o → frame C own H1 a = some o := fun a o h => frame_some.mpr (S1.fr a o h)
    have kn : ∀ {own' : Own} {H' : Hp} {σ' : L2.St} {e' : En} {g' : Rng}, SR C own' (frame C own H1) H' σ' e' g' → KeepN C own H1 H' := fun S' a o h1 h2 h3 => (S'.fr a o (frame_some.mpr ⟨h1, h2, h3⟩)).1
    refine for_it wk (fun i σ' H' => ∃ own' e' g', SR C own' (frame C own H1) H' σ' e' g' ∧ OutSR R C F (forL tf fb' (ds.drop i) e' g') D') ⟨own, e, g1, S1.framed, by simpa using o1⟩ (fun i σ' H' _ ⟨own', e', g', S', _⟩ => hG H' (kn S')) ?_ ?_
    · rintro i y σ' H' H'' hi ⟨own', e', g', S', o'⟩ hy
      obtain ⟨same, d, hd, rd⟩ := hY i H' y H'' hi (kn S') hy
      rw [List.drop_eq_getElem_cons hi] at o'
      have ed : ds[i] = d := by rw [List.getElem?_eq_getElem hi] at hd; exact Option.some.inj hd
      rw [ed] at o'
      have S2 := S'.same same
      have rd' : Rep C.g H'' (C.Al own') d y := rd.mono (.same fun _ _ z => z) fun a q _ => by
        obtain ⟨q1, ob, q2⟩ := q
        exact ⟨q1.1, (S2.fr a ob (frame_some.mpr ⟨q2, q1.2⟩)).2⟩
      refine ⟨own', frame C own H1, e', g', d, S2, rd', ?_⟩
      · unfold forL at o'
        cases ht : tf d e' with
        | none => rw [ht] at o'; exact o'.elim
        | some e2 =>
          rw [ht] at o'
          intro σ2 S3 _
          refine ⟨_, frame C own H1, e2, g', S3, ?_⟩
          have o2 : OutSR R C F ((fb' e2 g').bind _) D' := o'
          cases hb' : fb' e2 g' with
          | ok u =>
            rw [hb'] at o2
            cases u with
            | nx e3 g3 => exact fun own3 σ3 H3 S4 => ⟨own3, e3, g3, S4, o2⟩
            | ct e3 g3 => exact fun own3 σ3 H3 S4 => ⟨own3, e3, g3, S4, o2⟩
            | bk e3 g3 => exact fun own3 σ3 H3 S4 => o2 own3 σ3 H3 (S4.frames hF)
            | rt d3 g3 => exact fun own3 σ3 en H3 v S4 r => o2 own3 σ3 en H3 v (S4.frames hF) r
          | err y => rw [hb'] at o2; exact fun own3 σ3 en gg H3 c dd S4 r => o2 own3 σ3 en gg H3 c dd (S4.frames hF) r
          | stuck => rw [hb'] at o2; exact o2.elim
    · rintro σ' H' ⟨own', e', g', S', o'⟩
      rw [List.drop_length] at o'
      exact o' own' σ' H' (S'.frames hF)⟩
def sRetCF (c : Str) (fl : MA) : MS := fun e g => (fl e g).bind fun p => .ok (.rt (.tup [.str c, .lst p.1]) p.2)
theorem dsr_retCF {c : Str} (ht : ∀ {t1 t2 : TE}, PE C.X x t1 → PE C.X y t2 → PE C.X (.Tuple [x, y] kk tpos) (tTup (tCons t1 (tCons t2 tNil)))) (hc : PE C.X x (tC (.str c))) (ha : DF C y fl) : DSR (NewT [false, true]) C (.Return (some (.Tuple [x, y] kk tpos)) pos) (sRetCF c fl) :=
  ps_imp (ps_ret (ht hc ha)) fun D σ H ⟨own, F, e, g, S, o⟩ => ⟨own, F, e, g, S, OutF.bindSR o fun l g1 H1 p vs x1 n hp S1 r1 o1 => by
    refine ⟨(by show 2 ≤ sizeLine; decide), fun t nt => ?_⟩
    have sm := same_new (o := .tup [.str c, .ref p]) nt
    refine o1 own _ e _ _ (S1.same sm) ⟨[.str c, .lst l], t, [.str c, .ref p], [none, some p], rfl, rfl, SqT.of upd_same, rfl, by simp [fr], fun q hq => ?_, .tr (.str_ _) (.lst (sm _ _ hp) ?_ .nil)⟩
    · simp [fr] at hq
      rw [hq]
      exact S.freshH0 n
    · refine r1.mono (.same sm) fun a q _ => ⟨⟨q.1.1, q.1.2.2⟩, fun z => ?_⟩
      simp [fr] at z
      exact q.2 z⟩
def sRetCO (c : Str) (j : Nat) : MS := fun e g => match e[j]? with
  | some (.ow l) => .ok (.rt (.tup [.str c, .lst l]) g)
  | _ => .stuck
theorem dsr_retCO {c : Str} {j : Nat} (ht : ∀ {t1 t2 : TE}, PE C.X x t1 → PE C.X y t2 → PE C.X (.Tuple [x, y] kk tpos) (tTup (tCons t1 (tCons t2 tNil)))) (hc : PE C.X x (tC (.str c))) (hv : PE C.X y (tVar j)) : DSR (NewT [false, true]) C (.Return (some (.Tuple [x, y] kk tpos)) pos) (sRetCO c j) :=
  ps_imp (ps_ret (ht hc hv)) fun D σ H ⟨own, F, e, g, S, o⟩ => by
    unfold sRetCO at o
    split at o
    · rename_i l hs
      obtain ⟨p, vs, h1, h2, h3, h4⟩ := S.sl j _ hs
      obtain ⟨_, h5, nio⟩ := S.on j p h1
      refine ⟨.ref p, h2, (by show 2 ≤ sizeLine; decide), fun t nt => ?_⟩
      have sm := same_new (o := .tup [.str c, .ref p]) nt
      refine o own _ e _ _ (S.same sm) ⟨[.str c, .lst l], t, [.str c, .ref p], [none, some p], rfl, rfl, SqT.of upd_same, rfl, by simp [fr], fun q hq => ?_, .tr (.str_ _) (.lst (sm _ _ h3) ?_ .nil)⟩
      · simp [fr] at hq
        rw [hq]
        exact h5
      · refine h4.mono (.same sm) fun a q _ => ⟨⟨q.1, q.2.2⟩, fun z => ?_⟩
        simp [fr] at z
        exact q.2.1 j (by rw [h1, z])
    · exact o.elim
end
end DL
set_option Elab.async false
set_option linter.all false
set_option maxRecDepth 100000
namespace DL
open PySem PySem.Spec PyProof.Rows L2
theorem run_at {CX : CXT} {P : Program} {w : World} {K : PySem.W.Frag} {mg : Str → Option Value} {base : Heap} {x qual : Str} {params : Arguments} {body : List Stmt} {scope : Scope} {dvs : List V} {kws : List (Str × V)} {f : Addr} {fd : FuncData} {N ps : List Str} {k : Nat}
    (F : FunD K x qual params body scope dvs kws f fd) (S : FnScope N ps scope) {A : Around} {outer : List PySem.Env} {s : Shared} {H : Hp} {args : Args} {us : List Value} {vs : List V} {Q : VK} {E : XK} (hl : vs.length = ps.length) (hr : Room (k + 1) A) (e0 : Env0 P w K mg base A outer s H) (hb : BindsTo s fd args (ps.zip us)) (r : Vals vs us)
    (hbody : ∀ cdv : Value, fd.code = cdv → Room k (A.deeper (envOfC qual scope s.heap.objs.size f cdv)) →
      ∃ t, PSs (cxOf CX P w K mg base N qual scope f cdv A outer s H E) body t ∧ t { nx := fun _ H' => Q .non H', rt := Q } (L2.start N vs) H) :
    codeAny (model P w) A (.call (.ref f) args) (CR CX outer P w H s Q E) s := by
  obtain ⟨oc, od, dV, kV, doc, pm, an, cdv, ct, osl, rfl, lk, hcd, _, _⟩ := F.ex
  have KX : K.In s.heap := e0.mod.kin.keeps fun b o e => (e0.bs b o e).1
  have lim : s.heap.NoLimit := e0.mod.nolimit.keeps fun b o e => (e0.bs b o e).1
  have kinds : ∀ y ∈ ps.zip us, scope.names.lookup y.1 = some .local ∨ (scope.names.lookup y.1 = some .cell ∧ ((cellsFrom (s.heap.objs.size + 1) scope.names []).lookup y.1).isSome = true) := fun ⟨n, v⟩ hy => by
    rcases S.par n (List.of_mem_zip hy).1 with q | q
    · exact .inl q
    · exact .inr ⟨q, PySem.W.cellsFrom_some _ _ _ (.inl q)⟩
  refine codeAny_call_function hr.depth (KX _ _ lk) rfl S.co S.gen rfl (PySem.W.codeRec_of KX hcd) (hb _ _ _ _ ?_)
  refine wpAny_newFunctionEnv_cells S.kind kinds fun env he s1 z => ?_
  subst he
  refine ⟨lim.keeps z.toInCall.keep, codeAny_func ?_⟩
  obtain ⟨t, ht, hq⟩ := hbody cdv rfl (hr.deeper _)
  have I : Inv (cxOf CX P w K mg base N qual scope f cdv A outer s H E) [] (L2.start N vs) H s1 := inv_start S hr.hd e0 hl r z
  refine wpAny_mono (ht.run [] s1 (L2.start N vs) H _ I hq) (fun fl s' hs => ?_) fun e s' hs => hs
  cases fl with
  | ret u =>
    obtain ⟨v, σ', H', J, rv, q⟩ := hs
    exact ⟨v, H', J.os, J.bare, J.base, J.hok, rv, q⟩
  | next =>
    obtain ⟨σ', H', J, q⟩ := hs
    exact ⟨.non, H', J.os, J.bare, J.base, J.hok, rfl, q⟩
  | brk => obtain ⟨_, _, _, q⟩ := hs; exact q.elim
  | cont => obtain ⟨_, _, _, q⟩ := hs; exact q.elim
section
variable {P : Program} {w : World} {K : PySem.W.Frag} {mg : Str → Option Value} {base : Heap} {cm : Str → Option Addr} {tb : List (Addr × Str)}
end
def LawG (l : PySem.W.OpenLaw) (w : World) (K : PySem.W.Frag) (k : Nat) (mg : Str → Option Value) (fa : Addr) : Prop :=
  ∃ fd : FuncData, (∀ (s : Shared) (u : Value), BindsTo s fd ⟨[u], []⟩ [("_law_script", u)]) ∧ ∀ base : Heap, K.In base → base.Ns mainGlobals mg → ∀ {s : Shared} {H : Hp} {us : List Value} {vs : List V} {Q : VK} {E : XK},
    Room k callerA → Env0 l.prog w K mg base callerA [] s H → BindsTo s fd ⟨us, []⟩ ((["_law_script"] : List Str).zip us) → Vals vs us → spLaw K [] vs H Q E → codeAny (model l.prog w) callerA (.call (.ref fa) ⟨us, []⟩) (CR (L2N.CX l.prog w) [] l.prog w H s Q E) s
theorem walkG {l : PySem.W.OpenLaw} {k : Nat} {q : Program} {loose : List Str} {XP : (Str → Option Value) → Heap → Prop} {YP : World → Heap → Prop} {d : DefRec}
    (hn : l.most = some 63) (hn2 : 63 ≤ sizeLine) (hdf : d.params.defaults = []) (hr : Room k callerA)
    (F : ∀ (w : World) (mg : Str → Option Value) (fa : Addr) (h : Heap), YP w h → h.Ns mainGlobals mg → mg d.name = some (.ref fa) → ∃ K : PySem.W.Frag, K.In h ∧ LawG l w K k mg fa) :
    PySem.W.WalkO q loose XP YP l.row.toRowW d [] (fun f vs => PySem.call f vs) := by
  refine Att.attach_callB hn hdf fun w s₀ s₁ mg mb fa o pm cd doc a vs ns G Y ho hd hcd hmg hobj hints hlen hbits hg => ?_
  obtain ⟨K, KX, fd, hbind, run⟩ := F w mg fa _ Y G.T.g hmg
  have rv := vals_ints hints
  have core : ∀ H : Hp, (∀ b, H b ≠ none → b = a ∧ K.lookup a = none ∧ ∃ ob xs, H b = some (.frz ob (.lst xs))) → SqL K H a (ns.map V.int) → HOk l.prog w H s₁.heap →
      codeAny (model l.prog w) callerA (.call (.ref fa) ⟨[.ref a], []⟩) (fun r s' => r = .ok (.ret (.bool true)) ∧ OldK s₁.heap s'.heap ∧ s'.os = s₁.os ∧ AllBare s'.gens) s₁ := by
    intro H hO hS hok
    have keepD : ∀ {b : Addr} {ob : Obj} {es : Array DictEntry} {ep : Nat}, s₁.heap.get? b = some ob → ob.data = .dict es ep → (hidT s₁.heap H).get? b = some ob := fun {b ob es ep} e hdd => hidT_get e (by
      by_cases hq : H b = none
      · exact hq
      · obtain ⟨rfl, _⟩ := hO b hq
        rw [hobj] at e
        cases e
        cases hdd)
    have nsK : ∀ {b : Addr} {m : Str → Option Value}, s₁.heap.Ns b m → (hidT s₁.heap H).Ns b m := fun {b m} ⟨ob, es, ep, e, hdd, r⟩ => ⟨ob, es, ep, keepD e hdd, hdd, r⟩
    have kIn : K.In (hidT s₁.heap H) := fun b ob e => hidT_get (KX b ob e) (by
      by_cases hq : H b = none
      · exact hq
      · obtain ⟨rfl, hk, _⟩ := hO b hq
        rw [hk] at e
        cases e)
    have hM : L2.Mod K mg (hidT s₁.heap H) := ⟨kIn, nsK G.T.g, ⟨mb, nsK G.T.b, G.T.builtins⟩, let ⟨mc, h1, h2⟩ := G.T.nolimit; ⟨mc, nsK h1, h2⟩⟩
    have e0 : Env0 l.prog w K mg (hidT s₁.heap H) callerA [] s₁ H := ⟨rfl, hM, fun b ob e => of_hidT e, Nat.le_of_eq (hidT_size _ _), trivial, fun b hb => absurd (show b ∈ ([] : List Addr) from hb) (by simp), hok, .of_eq hg⟩
    refine codeAny_mono (run (hidT s₁.heap H) kIn (nsK G.T.g) (Q := fun v _ => v = .bl true) (E := fun _ _ _ => False) hr e0 (hbind s₁ (.ref a)) (vs := [.ref a]) (.cons rfl .nil) ⟨a, ns, rfl, (fun p hp => (List.not_mem_nil hp).elim), hS, hlen, fun _ => rfl⟩) fun r s' h => ?_
    cases r with
    | error e => exact (cx_false h).elim
    | ok fl =>
      cases fl with
      | next => exact False.elim h
      | brk => exact False.elim h
      | cont => exact False.elim h
      | ret u =>
        obtain ⟨v, H', os, bare, un, hok', r', hv⟩ := h
        have hv' : v = .bl true := hv
        subst hv'
        obtain rfl : u = Value.bool true := r'
        have kept : ∀ b ob, s₁.heap.get? b = some ob → s'.heap.get? b = some ob := fun b ob e => by
          by_cases hq : H b = none
          · exact un.keep b ob e hq (by intro z; exact absurd (show b ∈ ([] : List Addr) from z) (by simp)) (by simp)
          · obtain ⟨_, _, o2, xs, z⟩ := hO b hq
            have e1 := (hok b _ z).1
            have e2 := (hok' b _ (un.frzs b o2 _ z)).1
            rw [e] at e1
            cases e1
            exact e2
        exact ⟨rfl, ⟨fun b ob e => .inl (kept b ob e), fun b ob e => ⟨ob, kept b ob e⟩⟩, os, bare⟩
  cases hk : K.lookup a with
  | some ob =>
    have e := KX a ob hk
    rw [hobj] at e
    cases e
    exact core (fun _ => none) (fun b z => absurd rfl z) (.inr ⟨_, vs.toArray, _, hk, rfl, rfl, rfl, by rw [List.size_toArray, hints.length]; exact Nat.le_trans hlen hn2, by simpa using rv⟩) fun b u z => by cases z
  | none =>
    refine core (fun b => if b = a then some (.frz { cls := .type "list", data := .seq vs.toArray } (.lst (ns.map V.int))) else none) (fun b z => ?_) (.inl (.inr ⟨{ cls := .type "list", data := .seq vs.toArray }, if_pos rfl⟩)) fun b u z => ?_
    · by_cases hb : b = a
      · exact ⟨hb, hk, _, _, if_pos hb⟩
      · exact absurd (if_neg hb) z
    · by_cases hb : b = a
      · have z' := (if_pos hb).symm.trans z
        cases z'
        rw [hb]
        exact ⟨hobj, by rw [List.length_map]; exact Nat.le_trans hlen hn2, vs, _, rv, hobj⟩
      · have z' := (if_neg hb).symm.trans z
        cases z'
end DL
set_option Elab.async false
set_option linter.all false
set_option maxRecDepth 100000
namespace DL
open PySem PySem.Spec PyProof.Rows L2
theorem call_reprD {X : Cx} (hG : X.A.guards = some []) (hr : Room 8 X.A) : CallR X (.builtin "repr") (fun xs H Q => ∃ (a : Addr) (d : PyData), xs = [.ref a] ∧ Dp X.K H (.ref a) d ∧ d.showable = true ∧ d.hasDict = false ∧ d.depth ≤ 8 ∧ d.shown.length ≤ sizeLine ∧ Q (.str d.shown) H) := by
  intro pins s σ H xs us Q I r h
  obtain ⟨a, d, rfl, hd, h1, h2, h3, h4, hq⟩ := h
  rw [Vals.ref1 r]
  obtain ⟨as, rd⟩ := Dp.reads I d (.ref a) (.ref a) hd rfl
  have un := hr.un
  refine repr_of_reads' rd h1 (PyData.noDict_hsm h2) hG (by omega) (fun b o e => e) (fun h' u tk hk => ?_) h4
  exact ⟨.str d.shown, H, I.kept hk, ⟨_, rfl⟩, hq⟩
def dRepr (d : D) : Res D := if SeqAt.shaped d.py = true ∧ d.py.showable = true ∧ d.py.hasDict = false ∧ d.py.depth ≤ 8 ∧ d.py.shown.length ≤ sizeLine then match d with
    | .tup _ => .ok (.str d.py.shown)
    | .lst _ => .ok (.str d.py.shown)
    | _ => .stuck
  else .stuck
theorem bb_reprD : bootBuiltins "repr" = some (.builtin "repr") := by decide +kernel
section
variable {C : Ctx} {a b : Expr} {fa : ME} {fl : MA} {p pos : Pos} {mk : List Bool}
theorem dReprE (hr : Room 8 C.X.A) (hml : C.X.mg "repr" = none) (ha : DE C a fa) (hG : C.X.A.guards = some [] := by rfl) (hg : Gl C.X "repr" := by rfl)
    (he : starEach [a] C.X.env = (false, eval a C.X.env) :: starEach [] C.X.env := by rfl) (hpl : (backTo pos (starEach [] C.X.env)).any (·.1) = false := by rfl) : DE C (.Call (.Name "repr" p) [a] [] pos) (eUn dRepr fa) :=
  pe_imp (pe_callB (call_reprD hG hr) hg hml bb_reprD (pa_cons ha pa_nil he) (by decide) (by decide) he hpl) fun σ H Q ⟨own, F, e, g, S, o⟩ => ⟨own, F, e, g, S, OutE.bindE o fun x g1 H1 v x1 S1 r1 o1 => by
    unfold dRepr at o1
    split at o1
    · rename_i c
      cases x <;> first | exact o1.elim | skip
      · obtain ⟨t, vs, rfl, ht, rl⟩ := r1.toTup
        exact ⟨t, _, rfl, dp_of c.1 r1, c.2.1, c.2.2.1, c.2.2.2.1, c.2.2.2.2, o1 H1 _ (.refl H1) S1 (.str_ _)⟩
      · obtain ⟨t, vs, rfl, ht, rl⟩ := r1.toLst
        exact ⟨t, _, rfl, dp_of c.1 r1, c.2.1, c.2.2.1, c.2.2.2.1, c.2.2.2.2, o1 H1 _ (.refl H1) S1 (.str_ _)⟩
    · exact o1.elim⟩
theorem PartR.at_ {g : G} {B : Addr → Prop} {H : Hp} {ds : List D} {us : List V} {ps : List (Option Addr)} (h : PartR g B H ds us ps) : ∀ {i : Nat} {l : List D}, ds[i]? = some (.lst l) → (ps.map Option.isSome)[i]? = some true → ∃ p vs, us[i]? = some (.ref p) ∧ p ∈ fr ps ∧ H p = some (.lst vs) ∧ RepL g H B l vs := by
  induction h with
  | nil => intro i l e; simp at e
  | lst hp r h ih =>
    intro i l e m
    cases i with
    | zero => simp at e; subst e; exact ⟨_, _, rfl, by simp [fr], hp, r⟩
    | succ i =>
      obtain ⟨p, vs, h1, h2, h3⟩ := ih (i := i) (by simpa using e) (by simpa using m)
      exact ⟨p, vs, by simpa using h1, by simp [fr] at h2 ⊢; exact .inr h2, h3⟩
  | tr r h ih =>
    intro i l e m
    cases i with
    | zero => simp at m
    | succ i =>
      obtain ⟨p, vs, h1, h2, h3⟩ := ih (i := i) (by simpa using e) (by simpa using m)
      exact ⟨p, vs, by simpa using h1, by simp [fr] at h2 ⊢; exact h2, h3⟩
theorem OutTu.bindF {own : Own} {F H : Hp} {σ : L2.St} {e : En} {r : Res (List D × Rng)} {k : List D × Rng → Res (List D × Rng)} {Q : VK} {Q1 : VK} (h : OutF C own F σ e H (r.bind k) Q)
    (hq : ∀ ds g1 H' t us ps, ExtI C H H' → SqT C.X.K H' t us → ps.map Option.isSome = mk → (∀ p ∈ fr ps, H p = none) → SR C own F H' σ e g1 → PartR C.g (fun a => C.Al own a ∧ a ∉ fr ps) H' ds us ps → OutF C own F σ e H (k (ds, g1)) Q → Q1 (.ref t) H') : OutTu mk C own F σ e H r Q1 := by
  cases r with
  | ok q =>
    obtain ⟨ds, g1⟩ := q
    exact fun H' t us ps x hq' hm nd n S pr => hq ds g1 H' t us ps x hq' hm n S pr h
  | err y => exact h
  | stuck => exact h
end
section
variable {C : Ctx} {pos p : Pos} {x nx : Str} {fk : MA} {kws : List Keyword} {k : Nat} {f : Addr} {ps ks : List Str} {st : Stmt} {dvs msv : List V} {kd : List (Str × V)} {dd md : List D} {src : List Src} {m : List D → Res D} {mk : List Bool}
end
end DL
set_option Elab.async false
set_option linter.all false
set_option maxRecDepth 100000
namespace DL
open PySem L2
inductive MV where
  | d (x : D) | o (k : Nat) | t (l : List MV) | l (l : List MV)
  deriving Inhabited
inductive MO where
  | lst (l : List MV)
  | ins (c : Str) (ns : List Str) (l : List MV)
structure MSt where
  g : Rng
  st : List MO
inductive MSl where
  | un | v (x : MV) | rng
abbrev MEn := List MSl
inductive RM (α : Type) where
  | ok (a : α) (G : MSt)
  | err (x : Exc) (G : MSt)
  | stuck
def RM.bind {α β : Type} (r : RM α) (k : α → MSt → RM β) : RM β := match r with
  | .ok a G => k a G
  | .err x G => .err x G
  | .stuck => .stuck
mutual
def RepM (g : G) (B : Addr → Prop) (m : List Addr) (H : Hp) : MV → V → Prop
  | .d x, v => Rep g H (fun a => B a ∧ a ∉ m) x v
  | .o k, v => ∃ a, m[k]? = some a ∧ v = .ref a
  | .t l, v => ∃ a vs, v = .ref a ∧ SqT g.K H a vs ∧ RepMs g B m H l vs
  | .l l, v => ∃ a vs, v = .ref a ∧ (B a ∧ a ∉ m) ∧ H a = some (.lst vs) ∧ RepMs g B m H l vs
def RepMs (g : G) (B : Addr → Prop) (m : List Addr) (H : Hp) : List MV → List V → Prop
  | [], vs => vs = []
  | d :: l, vs => ∃ v r, vs = v :: r ∧ RepM g B m H d v ∧ RepMs g B m H l r
end
def ObjM (g : G) (B : Addr → Prop) (m : List Addr) (H : Hp) (a : Addr) : MO → Prop
  | .lst l => ∃ vs, H a = some (.lst vs) ∧ RepMs g B m H l vs
  | .ins c ns l => ∃ Ca dx vs, g.cm c = some Ca ∧ H a = some (.ins Ca dx (ns.zip vs)) ∧ ns.length = vs.length ∧ RepMs g B m H l vs
structure StR (g : G) (B : Addr → Prop) (m : List Addr) (H : Hp) (st : List MO) : Prop where
  len : m.length = st.length
  nd : m.Nodup
  ob : ∀ (k : Nat) a o, m[k]? = some a → st[k]? = some o → ObjM g B m H a o
section
variable {g : G} {B B' : Addr → Prop} {m m' : List Addr} {H H' : Hp}
theorem RepMs.nil : RepMs g B m H [] [] := by rw [RepMs]
theorem RepMs.cons {d : MV} {v : V} {l : List MV} {r : List V} (h : RepM g B m H d v) (hr : RepMs g B m H l r) : RepMs g B m H (d :: l) (v :: r) := by rw [RepMs]; exact ⟨v, r, rfl, h, hr⟩
theorem RepMs.toNil {vs : List V} (h : RepMs g B m H [] vs) : vs = [] := by rw [RepMs] at h; exact h
theorem RepMs.toCons {d : MV} {l : List MV} {vs : List V} (h : RepMs g B m H (d :: l) vs) : ∃ v r, vs = v :: r ∧ RepM g B m H d v ∧ RepMs g B m H l r := by rw [RepMs] at h; exact h
theorem RepMs.length : ∀ {l : List MV} {vs : List V}, RepMs g B m H l vs → l.length = vs.length
  | [], vs, h => by rw [RepMs] at h; subst h; rfl
  | d :: l, vs, h => by
    obtain ⟨v, r, rfl, _, hr⟩ := h.toCons
    simp [RepMs.length hr]
theorem RepMs.append : ∀ {l l' : List MV} {vs vs' : List V}, RepMs g B m H l vs → RepMs g B m H l' vs' → RepMs g B m H (l ++ l') (vs ++ vs')
  | [], l', vs, vs', h, h' => by rw [RepMs] at h; subst h; exact h'
  | d :: l, l', vs, vs', h, h' => by
    obtain ⟨v, r, rfl, hv, hr⟩ := h.toCons
    exact .cons hv (RepMs.append hr h')
theorem RepMs.get : ∀ {l : List MV} {vs : List V} {i : Nat} {d : MV}, RepMs g B m H l vs → l[i]? = some d → ∃ v, vs[i]? = some v ∧ RepM g B m H d v
  | [], vs, i, d, h, e => by simp at e
  | d :: l, vs, 0, d', h, e => by
    obtain ⟨v, r, rfl, hv, hr⟩ := h.toCons
    simp at e; subst e; exact ⟨v, rfl, hv⟩
  | d :: l, vs, i + 1, d', h, e => by
    obtain ⟨v, r, rfl, hv, hr⟩ := h.toCons
    obtain ⟨u, e1, e2⟩ := RepMs.get (i := i) (d := d') hr (by simpa using e)
    exact ⟨u, by simpa using e1, e2⟩
theorem RepMs.take : ∀ {l : List MV} {vs : List V} (n : Nat), RepMs g B m H l vs → RepMs g B m H (l.take n) (vs.take n)
  | [], vs, n, h => by rw [RepMs] at h; subst h; simp; exact RepMs.nil
  | d :: l, vs, 0, h => by simp; exact RepMs.nil
  | d :: l, vs, n + 1, h => by
    obtain ⟨v, r, rfl, hv, hr⟩ := h.toCons
    exact .cons hv (RepMs.take n hr)
theorem RepMs.drop : ∀ {l : List MV} {vs : List V} (n : Nat), RepMs g B m H l vs → RepMs g B m H (l.drop n) (vs.drop n)
  | [], vs, n, h => by rw [RepMs] at h; subst h; simp; exact RepMs.nil
  | d :: l, vs, 0, h => by simpa using h
  | d :: l, vs, n + 1, h => by
    obtain ⟨v, r, rfl, hv, hr⟩ := h.toCons
    simpa using RepMs.drop n hr
theorem RepMs.set {d' : MV} {v' : V} (hx : RepM g B m H d' v') : ∀ {l : List MV} {vs : List V} (n : Nat), RepMs g B m H l vs → RepMs g B m H (l.set n d') (vs.set n v')
  | [], vs, n, h => by rw [RepMs] at h; subst h; simp; exact RepMs.nil
  | d :: l, vs, 0, h => by
    obtain ⟨v, r, rfl, hv, hr⟩ := h.toCons
    exact .cons hx hr
  | d :: l, vs, n + 1, h => by
    obtain ⟨v, r, rfl, hv, hr⟩ := h.toCons
    exact .cons hv (RepMs.set hx n hr)
structure MKeep (B B' : Addr → Prop) (m m' : List Addr) (H H' : Hp) : Prop where
  pre : ∃ t, m' = m ++ t
  k : Keep (fun a => B a ∧ a ∉ m) H H'
  up : ∀ a, (B a ∧ a ∉ m) → (∃ o, H a = some o) → (B' a ∧ a ∉ m')
theorem MKeep.at_ (k : MKeep B B' m m' H H') {i : Nat} {a : Addr} (h : m[i]? = some a) : m'[i]? = some a := by
  obtain ⟨t, rfl⟩ := k.pre
  rw [List.getElem?_append_left (List.getElem?_eq_some_iff.mp h).1]; exact h
mutual
theorem RepM.mono (k : MKeep B B' m m' H H') : ∀ {d : MV} {v : V}, RepM g B m H d v → RepM g B' m' H' d v
  | .d x, v, h => by
    rw [RepM] at h ⊢
    exact Rep.mono k.k k.up h
  | .o i, v, h => by
    rw [RepM] at h ⊢; obtain ⟨a, e1, e2⟩ := h
    exact ⟨a, k.at_ e1, e2⟩
  | .t l, v, h => by
    rw [RepM] at h ⊢; obtain ⟨a, vs, e, h1, h2⟩ := h
    exact ⟨a, vs, e, k.k.sqT h1, RepMs.mono k h2⟩
  | .l l, v, h => by
    rw [RepM] at h ⊢; obtain ⟨a, vs, e, h0, h1, h2⟩ := h
    exact ⟨a, vs, e, k.up a h0 ⟨_, h1⟩, k.k.all _ _ h0 h1, RepMs.mono k h2⟩
theorem RepMs.mono (k : MKeep B B' m m' H H') : ∀ {l : List MV} {vs : List V}, RepMs g B m H l vs → RepMs g B' m' H' l vs
  | [], vs, h => by rw [RepMs] at h ⊢; exact h
  | d :: l, vs, h => by
    rw [RepMs] at h ⊢; obtain ⟨v, r, e, h1, h2⟩ := h
    exact ⟨v, r, e, RepM.mono k h1, RepMs.mono k h2⟩
end
theorem RepM.toD {x : D} {v : V} (h : RepM g B m H (.d x) v) : Rep g H (fun a => B a ∧ a ∉ m) x v := by rw [RepM] at h; exact h
theorem RepM.ofD {x : D} {v : V} (h : Rep g H (fun a => B a ∧ a ∉ m) x v) : RepM g B m H (.d x) v := by rw [RepM]; exact h
theorem RepM.toO {k : Nat} {v : V} (h : RepM g B m H (.o k) v) : ∃ a, m[k]? = some a ∧ v = .ref a := by rw [RepM] at h; exact h
theorem RepM.ofO {k : Nat} {a : Addr} (h : m[k]? = some a) : RepM g B m H (.o k) (.ref a) := by rw [RepM]; exact ⟨a, h, rfl⟩
theorem RepM.toT {l : List MV} {v : V} (h : RepM g B m H (.t l) v) : ∃ a vs, v = .ref a ∧ SqT g.K H a vs ∧ RepMs g B m H l vs := by rw [RepM] at h; exact h
theorem RepM.ofT {l : List MV} {a : Addr} {vs : List V} (h : SqT g.K H a vs) (r : RepMs g B m H l vs) : RepM g B m H (.t l) (.ref a) := by rw [RepM]; exact ⟨a, vs, rfl, h, r⟩
def asD : List MV → Option (List D)
  | [] => some []
  | .d x :: l => match asD l with
    | some r => some (x :: r)
    | none => none
  | _ :: _ => none
theorem RepMs.asD : ∀ {l : List MV} {vs : List V} {ds : List D}, RepMs g B m H l vs → DL.asD l = some ds → RepL g H (fun a => B a ∧ a ∉ m) ds vs
  | [], vs, ds, h, e => by
    rw [RepMs] at h; subst h
    cases e; exact .nil
  | .d x :: l, vs, ds, h, e => by
    obtain ⟨v, r, rfl, hv, hr⟩ := h.toCons
    rw [DL.asD] at e
    cases q : DL.asD l with
    | none => rw [q] at e; cases e
    | some r' => rw [q] at e; cases e; exact .cons hv.toD (RepMs.asD hr q)
  | .o k :: l, vs, ds, h, e => by cases e
  | .t k :: l, vs, ds, h, e => by cases e
  | .l k :: l, vs, ds, h, e => by cases e
theorem RepMs.ofL : ∀ {ds : List D} {vs : List V}, RepL g H (fun a => B a ∧ a ∉ m) ds vs → RepMs g B m H (ds.map MV.d) vs
  | [], vs, h => by rw [RepL] at h; subst h; exact .nil
  | x :: l, vs, h => by
    obtain ⟨v, r, rfl, hv, hr⟩ := h.toCons
    exact .cons (.ofD hv) (RepMs.ofL hr)
end
mutual
def snapV : Nat → List MO → MV → Option D
  | 0, _, _ => none
  | n + 1, st, .d x => some x
  | n + 1, st, .o k => match st[k]? with
    | some (.lst l) => match snapL n st l with
      | some r => some (.lst r)
      | none => none
    | some (.ins c ns l) => match snapL n st l with
      | some r => some (.ins c ns r)
      | none => none
    | none => none
  | n + 1, st, .t l => match snapL n st l with
    | some r => some (.tup r)
    | none => none
  | n + 1, st, .l l => match snapL n st l with
    | some r => some (.lst r)
    | none => none
def snapL : Nat → List MO → List MV → Option (List D)
  | _, _, [] => some []
  | 0, _, _ :: _ => none
  | n + 1, st, x :: l => match snapV n st x with
    | some d => match snapL (n + 1) st l with
      | some r => some (d :: r)
      | none => none
    | none => none
end
section
variable {g : G} {B : Addr → Prop} {m : List Addr} {H : Hp} {st : List MO}
mutual
theorem snap_rep {A : Addr → Prop} (S : StR g B m H st) (hA : ∀ a, B a → A a) (hm : ∀ a, a ∈ m → A a) : ∀ (n : Nat) {w : MV} {v : V} {d : D}, snapV n st w = some d → RepM g B m H w v → Rep g H A d v
  | 0, w, v, d, e, _ => by simp [snapV] at e
  | n + 1, .d x, v, d, e, r => by
    simp only [snapV] at e; cases e
    exact r.toD.mono (.same fun _ _ z => z) fun a q _ => hA a q.1
  | n + 1, .o k, v, d, e, r => by
    obtain ⟨a, hk, rfl⟩ := r.toO
    simp only [snapV] at e
    cases q : st[k]? with
    | none => rw [q] at e; cases e
    | some o =>
      have ob := S.ob k a o hk q
      have ha : A a := hm a (List.mem_of_getElem? hk)
      rw [q] at e
      cases o with
      | lst l =>
        simp only at e
        cases ql : snapL n st l with
        | none => rw [ql] at e; cases e
        | some r =>
          rw [ql] at e; cases e
          obtain ⟨vs, h1, h2⟩ := ob
          exact .lst_ ha h1 (snap_repL S hA hm n ql h2)
      | ins c ns l =>
        simp only at e
        cases ql : snapL n st l with
        | none => rw [ql] at e; cases e
        | some r =>
          rw [ql] at e; cases e
          obtain ⟨Ca, dx, vs, h0, h1, h2, h3⟩ := ob
          rw [Rep]
          exact ⟨a, Ca, dx, vs, rfl, ha, h0, h1, h2, snap_repL S hA hm n ql h3⟩
  | n + 1, .t l, v, d, e, r => by
    obtain ⟨a, vs, rfl, h1, h2⟩ := r.toT
    simp only [snapV] at e
    cases ql : snapL n st l with
    | none => rw [ql] at e; cases e
    | some r => rw [ql] at e; cases e; exact .tup_ h1 (snap_repL S hA hm n ql h2)
  | n + 1, .l l, v, d, e, r => by
    rw [RepM] at r
    obtain ⟨a, vs, rfl, h0, h1, h2⟩ := r
    simp only [snapV] at e
    cases ql : snapL n st l with
    | none => rw [ql] at e; cases e
    | some r => rw [ql] at e; cases e; exact .lst_ (hA a h0.1) h1 (snap_repL S hA hm n ql h2)
theorem snap_repL {A : Addr → Prop} (S : StR g B m H st) (hA : ∀ a, B a → A a) (hm : ∀ a, a ∈ m → A a) : ∀ (n : Nat) {ws : List MV} {vs : List V} {ds : List D}, snapL n st ws = some ds → RepMs g B m H ws vs → RepL g H A ds vs
  | n, [], vs, ds, e, r => by
    rw [r.toNil]
    cases n <;> (simp only [snapL] at e; cases e; exact .nil)
  | 0, x :: l, vs, ds, e, r => by simp [snapL] at e
  | n + 1, x :: l, vs, ds, e, r => by
    obtain ⟨v, r', rfl, hv, hr⟩ := r.toCons
    simp only [snapL] at e
    cases q : snapV n st x with
    | none => rw [q] at e; cases e
    | some d =>
      rw [q] at e
      simp only at e
      cases ql : snapL (n + 1) st l with
      | none => rw [ql] at e; cases e
      | some r2 =>
        rw [ql] at e; cases e
        exact .cons (snap_rep S hA hm n q hv) (snap_repL S hA hm (n + 1) ql hr)
end
end
def Ctx.B (C : Ctx) (a : Addr) : Prop := (C.A a ∨ C.H0 a = none) ∧ ¬ C.io a
abbrev Ctx.RM (C : Ctx) (m : List Addr) (H : Hp) (w : MV) (v : V) : Prop := RepM C.g C.B m H w v
abbrev Ctx.RMs (C : Ctx) (m : List Addr) (H : Hp) (w : List MV) (v : List V) : Prop := RepMs C.g C.B m H w v
def MSlR (C : Ctx) (m : List Addr) (H : Hp) (o : Option (Option V)) : MSl → Prop
  | .un => True
  | .v x => ∃ v, o = some (some v) ∧ C.RM m H x v
  | .rng => ∃ r c, C.rg = some (r, c) ∧ o = some (some (.ref r))
structure MR (C : Ctx) (m : List Addr) (H : Hp) (σ : L2.St) (e : MEn) (Z : MSt) : Prop where
  len : σ.length = e.length
  sl : ∀ (i : Nat) s, e[i]? = some s → MSlR C m H (σ[i]?) s
  st : StR C.g C.B m H Z.st
  io : ∀ a, C.io a → (∃ o, H a = some o ∧ MutO o) ∧ a ∉ m
  tb : Tabs C.tb H
  rg : ∀ r c, C.rg = some (r, c) → C.io r ∧ ¬ C.io c ∧ c ∉ m ∧ C.H0 c ≠ none ∧ RngAt H r c Z.g
  po : C.po = none
  h0 : ∀ a, H a = none → C.H0 a = none
  ih : ∀ a, C.io a → C.H0 a ≠ none
structure MExt (X : Addr → Prop) (m : List Addr) (H : Hp) (m' : List Addr) (H' : Hp) : Prop where
  pre : ∃ t, m' = m ++ t
  kp : ∀ a o, H a = some o → a ∉ m → ¬ X a → H' a = some o
  nw : ∀ a, a ∈ m' → a ∈ m ∨ H a = none
theorem MExt.refl {X : Addr → Prop} {m : List Addr} {H : Hp} : MExt X m H m H := ⟨⟨[], by simp⟩, fun _ _ h _ _ => h, fun _ h => .inl h⟩
section
variable {X : Addr → Prop} {m m1 m2 : List Addr} {H H1 H2 : Hp}
theorem MExt.not {a : Addr} (x : MExt X m H m1 H1) (h : a ∉ m) (hh : ∃ o, H a = some o) : a ∉ m1 := fun z => by
  rcases x.nw a z with q | q
  · exact h q
  · obtain ⟨o, e⟩ := hh; rw [q] at e; cases e
theorem MExt.back {a : Addr} (x : MExt X m H m1 H1) (hio : ∀ a, X a → ∃ o, H1 a = some o) (hm : ∀ a, a ∈ m → ∃ o, H1 a = some o) (h : H1 a = none) : H a = none := by
  cases q : H a with
  | none => rfl
  | some o =>
    by_cases h1 : a ∈ m
    · obtain ⟨o, e⟩ := hm a h1; rw [h] at e; cases e
    by_cases h2 : X a
    · obtain ⟨o, e⟩ := hio a h2; rw [h] at e; cases e
    rw [x.kp a o q h1 h2] at h; cases h
theorem MExt.trans (x : MExt X m H m1 H1) (y : MExt X m1 H1 m2 H2) (hio : ∀ a, X a → ∃ o, H1 a = some o) (hm : ∀ a, a ∈ m → ∃ o, H1 a = some o) : MExt X m H m2 H2 where
  pre := by
    obtain ⟨t, rfl⟩ := x.pre
    obtain ⟨u, rfl⟩ := y.pre
    exact ⟨t ++ u, by rw [List.append_assoc]⟩
  kp := fun a o h n nx => y.kp a o (x.kp a o h n nx) (x.not n ⟨o, h⟩) nx
  nw := fun a h => by
    rcases y.nw a h with q | q
    · exact x.nw a q
    · exact .inr (x.back hio hm q)
end
section
variable {C : Ctx} {m m' : List Addr} {H H' : Hp} {σ : L2.St} {e : MEn} {Z Z' : MSt}
theorem ObjM.ex {g : G} {B : Addr → Prop} {a : Addr} {o : MO} (h : ObjM g B m H a o) : ∃ ob, H a = some ob ∧ ((∃ vs, ob = .lst vs) ∨ ∃ c dx fs, ob = .ins c dx fs) := by
  cases o with
  | lst l => obtain ⟨vs, h1, _⟩ := h; exact ⟨_, h1, .inl ⟨_, rfl⟩⟩
  | ins c ns l => obtain ⟨Ca, dx, vs, _, h1, _⟩ := h; exact ⟨_, h1, .inr ⟨_, _, _, rfl⟩⟩
theorem StR.mem {g : G} {B : Addr → Prop} {st : List MO} (S : StR g B m H st) {a : Addr} (h : a ∈ m) : ∃ ob, H a = some ob ∧ ((∃ vs, ob = .lst vs) ∨ ∃ c dx fs, ob = .ins c dx fs) := by
  obtain ⟨i, hi, rfl⟩ := List.mem_iff_getElem.mp h
  have h1 : m[i]? = some m[i] := List.getElem?_eq_getElem hi
  have h2 : st[i]? = some (st[i]'(by rw [← S.len]; exact hi)) := List.getElem?_eq_getElem _
  exact (S.ob i _ _ h1 h2).ex
theorem StR.noTup {g : G} {B : Addr → Prop} {st : List MO} (S : StR g B m H st) {a : Addr} {xs : List V} (h : Rd H a (.tup xs)) : a ∉ m := fun z => by
  obtain ⟨ob, h1, h2⟩ := S.mem z
  rcases h with h | ⟨o, h⟩ <;> (rw [h1] at h; cases h; rcases h2 with ⟨_, z⟩ | ⟨_, _, _, z⟩ <;> cases z)
theorem MR.iox (R : MR C m H σ e Z) : ∀ a, C.io a → ∃ o, H a = some o := fun a h => by
  obtain ⟨⟨o, q, _⟩, _⟩ := R.io a h
  exact ⟨o, q⟩
theorem MR.mx (R : MR C m H σ e Z) : ∀ a, a ∈ m → ∃ o, H a = some o := fun a h => by
  obtain ⟨o, q, _⟩ := R.st.mem h
  exact ⟨o, q⟩
theorem MR.keep (R : MR C m H σ e Z) (x : MExt C.io m H m' H') : MKeep C.B C.B m m' H H' := by
  have n : ∀ a xs, Rd H a (.tup xs) → ¬ C.io a := fun a xs h hi => by
    obtain ⟨⟨ob, hy, hm⟩, _⟩ := R.io a hi
    rcases hm with ⟨ys, rfl⟩ | ⟨ys, rfl⟩ | ⟨ys, rfl⟩ <;> rcases h with h | ⟨o, h⟩ <;> (rw [hy] at h; cases h)
  refine ⟨x.pre, ⟨fun a xs h => ?_, fun a o h1 h2 => x.kp a o h2 h1.2 h1.1.2, fun a xs h => x.kp _ _ h (R.st.noTup (.inl h)) (n a xs (.inl h))⟩, fun a h1 h2 => ⟨h1.1, x.not h1.2 h2⟩⟩
  have n := n a xs h
  have n2 := R.st.noTup h
  rcases h with h | ⟨o, h⟩
  · exact .inl (x.kp _ _ h n2 n)
  · exact .inr ⟨o, x.kp _ _ h n2 n⟩
theorem MR.rm (R : MR C m H σ e Z) (x : MExt C.io m H m' H') {w : MV} {v : V} (h : C.RM m H w v) : C.RM m' H' w v := h.mono (R.keep x)
theorem MR.rms (R : MR C m H σ e Z) (x : MExt C.io m H m' H') {w : List MV} {v : List V} (h : C.RMs m H w v) : C.RMs m' H' w v := h.mono (R.keep x)
theorem MExt.tr {m1 m2 : List Addr} {H1 H2 : Hp} {e1 : MEn} {Z1 : MSt} {σ1 : L2.St} (x : MExt C.io m H m1 H1) (R1 : MR C m1 H1 σ1 e1 Z1) (y : MExt C.io m1 H1 m2 H2) : MExt C.io m H m2 H2 := x.trans y R1.iox fun a h => by
  obtain ⟨t, rfl⟩ := x.pre
  exact R1.mx a (List.mem_append_left _ h)
theorem MR.fresh (R : MR C m H σ e Z) {a : Addr} (h : H a = none) : C.B a ∧ a ∉ m := by
  refine ⟨⟨.inr (R.h0 a h), fun hi => ?_⟩, fun z => ?_⟩
  · obtain ⟨o, q⟩ := R.iox a hi; rw [h] at q; cases q
  · obtain ⟨o, q⟩ := R.mx a z; rw [h] at q; cases q
theorem MR.slots (R : MR C m H σ e Z) (x : MExt C.io m H m' H') : ∀ (i : Nat) s, e[i]? = some s → MSlR C m' H' (σ[i]?) s := fun i s hs => by
  have q := R.sl i s hs
  cases s with
  | un => trivial
  | v w => obtain ⟨v, e1, e2⟩ := q; exact ⟨v, e1, R.rm x e2⟩
  | rng => exact q
end
end DL
set_option Elab.async false
set_option linter.all false
set_option maxRecDepth 100000
namespace DL
open PySem L2
abbrev MM := MEn → MSt → RM MV
abbrev MMT := MEn → MSt → RM Bool
abbrev MMA := MEn → MSt → RM (List MV)
def Ctx.Bm (C : Ctx) (m : List Addr) (a : Addr) : Prop := C.B a ∧ a ∉ m
def OutX (C : Ctx) (m : List Addr) (H : Hp) (σ : L2.St) (e : MEn) (x : Exc) (Z : MSt) : Prop := ∀ m' H' c dd, MExt C.io m H m' H' → MR C m' H' σ e Z → RepX C.g H' (C.Bm m') x c dd → C.W c dd σ H'
def OutM (C : Ctx) (m : List Addr) (H : Hp) (σ : L2.St) (e : MEn) (r : RM MV) (Q : VK) : Prop := match r with
  | .ok w Z => ∀ m' H' v, MExt C.io m H m' H' → MR C m' H' σ e Z → C.RM m' H' w v → Q v H'
  | .err x Z => OutX C m H σ e x Z
  | .stuck => False
def OutMT (C : Ctx) (m : List Addr) (H : Hp) (σ : L2.St) (e : MEn) (r : RM Bool) (Q : Bool → Hp → Prop) : Prop := match r with
  | .ok w Z => ∀ m' H', MExt C.io m H m' H' → MR C m' H' σ e Z → Q w H'
  | .err x Z => OutX C m H σ e x Z
  | .stuck => False
def OutMF (C : Ctx) (m : List Addr) (H : Hp) (σ : L2.St) (e : MEn) (r : RM (List MV)) (Q : VK) : Prop := match r with
  | .ok w Z1 => ∀ H' p vs, MExt C.io m H m H' → (∀ a, a ∈ m → H' a = H a) → H p = none → H' p = some (.lst vs) → MR C m H' σ e Z1 → RepMs C.g (fun a => C.B a ∧ a ≠ p) m H' w vs → Q (.ref p) H'
  | .err x Z1 => OutX C m H σ e x Z1
  | .stuck => False
def tM (C : Ctx) (f : MM) : TE := fun σ H Q => ∃ m e Z, MR C m H σ e Z ∧ OutM C m H σ e (f e Z) Q
def tMT (C : Ctx) (f : MMT) : TT := fun σ H Q => ∃ m e Z, MR C m H σ e Z ∧ OutMT C m H σ e (f e Z) Q
def tMF (C : Ctx) (f : MMA) : TE := fun σ H Q => ∃ m e Z, MR C m H σ e Z ∧ OutMF C m H σ e (f e Z) Q
def DM (C : Ctx) (x : Expr) (f : MM) : Prop := PE C.X x (tM C f)
def DMT (C : Ctx) (x : Expr) (f : MMT) : Prop := PT C.X x (tMT C f)
section
variable {C : Ctx} {m m1 : List Addr} {H H1 : Hp} {σ : L2.St} {e : MEn} {Z Z1 : MSt}
theorem OutX.step {x : Exc} {Y : MSt} (h : OutX C m H σ e x Y) (y : MExt C.io m H m1 H1) (R : MR C m1 H1 σ e Z1) : OutX C m1 H1 σ e x Y := fun m' H' c dd x2 => h m' H' c dd (y.tr R x2)
theorem OutM.step {r : RM MV} {Q : VK} (h : OutM C m H σ e r Q) (y : MExt C.io m H m1 H1) (R : MR C m1 H1 σ e Z1) : OutM C m1 H1 σ e r Q := by
  cases r with
  | ok w Y => exact fun m' H' v x2 => h m' H' v (y.tr R x2)
  | err x Y => exact OutX.step h y R
  | stuck => exact h
theorem OutMT.step {r : RM Bool} {Q : Bool → Hp → Prop} (h : OutMT C m H σ e r Q) (y : MExt C.io m H m1 H1) (R : MR C m1 H1 σ e Z1) : OutMT C m1 H1 σ e r Q := by
  cases r with
  | ok w Y => exact fun m' H' x2 => h m' H' (y.tr R x2)
  | err x Y => exact OutX.step h y R
  | stuck => exact h
theorem OutM.bind {α : Type} {O : List Addr → Hp → RM α → Prop} (hx : ∀ x Y, O m H (.err x Y) → OutX C m H σ e x Y) (hs : ∀ m H, ¬ O m H .stuck) (st : ∀ {m1 H1 Z1 r}, O m H r → MExt C.io m H m1 H1 → MR C m1 H1 σ e Z1 → O m1 H1 r) {r : RM MV} {k : MV → MSt → RM α} {Q1 : VK} (h : O m H (r.bind k))
    (hq : ∀ w Z1 m1 H1 v, MExt C.io m H m1 H1 → MR C m1 H1 σ e Z1 → C.RM m1 H1 w v → O m1 H1 (k w Z1) → Q1 v H1) : OutM C m H σ e r Q1 := by
  cases r with
  | ok w Y => exact fun m' H' v x R r => hq w Y m' H' v x R r (st h x R)
  | err x Y => exact hx _ _ h
  | stuck => exact (hs _ _ h).elim
theorem OutMT.bind {α : Type} {O : List Addr → Hp → RM α → Prop} (hx : ∀ x Y, O m H (.err x Y) → OutX C m H σ e x Y) (hs : ∀ m H, ¬ O m H .stuck) (st : ∀ {m1 H1 Z1 r}, O m H r → MExt C.io m H m1 H1 → MR C m1 H1 σ e Z1 → O m1 H1 r) {r : RM Bool} {k : Bool → MSt → RM α} {Q1 : Bool → Hp → Prop} (h : O m H (r.bind k))
    (hq : ∀ w Z1 m1 H1, MExt C.io m H m1 H1 → MR C m1 H1 σ e Z1 → O m1 H1 (k w Z1) → Q1 w H1) : OutMT C m H σ e r Q1 := by
  cases r with
  | ok w Y => exact fun m' H' x R => hq w Y m' H' x R (st h x R)
  | err x Y => exact hx _ _ h
  | stuck => exact (hs _ _ h).elim
theorem OutM.bM {r : RM MV} {k : MV → MSt → RM MV} {Q Q1 : VK} (h : OutM C m H σ e (r.bind k) Q) (hq : ∀ w Z1 m1 H1 v, MExt C.io m H m1 H1 → MR C m1 H1 σ e Z1 → C.RM m1 H1 w v → OutM C m1 H1 σ e (k w Z1) Q → Q1 v H1) : OutM C m H σ e r Q1 :=
  OutM.bind (O := fun m H r => OutM C m H σ e r Q) (fun _ _ h => h) (fun _ _ h => h) (fun h x R => h.step x R) h hq
theorem OutMT.bM {r : RM MV} {k : MV → MSt → RM Bool} {Q : Bool → Hp → Prop} {Q1 : VK} (h : OutMT C m H σ e (r.bind k) Q) (hq : ∀ w Z1 m1 H1 v, MExt C.io m H m1 H1 → MR C m1 H1 σ e Z1 → C.RM m1 H1 w v → OutMT C m1 H1 σ e (k w Z1) Q → Q1 v H1) : OutM C m H σ e r Q1 :=
  OutM.bind (O := fun m H r => OutMT C m H σ e r Q) (fun _ _ h => h) (fun _ _ h => h) (fun h x R => h.step x R) h hq
theorem OutM.bT {r : RM Bool} {k : Bool → MSt → RM MV} {Q : VK} {Q1 : Bool → Hp → Prop} (h : OutM C m H σ e (r.bind k) Q) (hq : ∀ w Z1 m1 H1, MExt C.io m H m1 H1 → MR C m1 H1 σ e Z1 → OutM C m1 H1 σ e (k w Z1) Q → Q1 w H1) : OutMT C m H σ e r Q1 :=
  OutMT.bind (O := fun m H r => OutM C m H σ e r Q) (fun _ _ h => h) (fun _ _ h => h) (fun h x R => h.step x R) h hq
theorem OutMT.bT {r : RM Bool} {k : Bool → MSt → RM Bool} {Q : Bool → Hp → Prop} {Q1 : Bool → Hp → Prop} (h : OutMT C m H σ e (r.bind k) Q) (hq : ∀ w Z1 m1 H1, MExt C.io m H m1 H1 → MR C m1 H1 σ e Z1 → OutMT C m1 H1 σ e (k w Z1) Q → Q1 w H1) : OutMT C m H σ e r Q1 :=
  OutMT.bind (O := fun m H r => OutMT C m H σ e r Q) (fun _ _ h => h) (fun _ _ h => h) (fun h x R => h.step x R) h hq
theorem OutM.now {w : MV} {v : V} {Q : VK} (R : MR C m H σ e Z) (h : OutM C m H σ e (.ok w Z) Q) (r : C.RM m H w v) : Q v H := h m H v .refl R r
theorem OutMT.now {w : Bool} {Q : Bool → Hp → Prop} (R : MR C m H σ e Z) (h : OutMT C m H σ e (.ok w Z) Q) : Q w H := h m H .refl R
abbrev Ctx.at_ (C : Ctx) (H0 : Hp) (A : Addr → Prop) : Ctx := { C with H0 := H0, A := A, exc := none, me := none, po := none }
def lowE (e : MEn) : En := e.map fun s => match s with
  | .v (.d x) => .sh x
  | .rng => .rng
  | _ => .un
def lowB (st : List MO) (e : MEn) : En := e.map fun s => match s with
  | .v x => match snapV 8 st x with
    | some d => .sh d
    | none => .un
  | .rng => .rng
  | .un => .un
theorem io_at {H0 : Hp} {A : Addr → Prop} (h : C.po = none) {a : Addr} : (C.at_ H0 A).io a ↔ C.io a := by
  unfold Ctx.io
  rw [h]
theorem MR.sr_ {A : Addr → Prop} {l : En} (R : MR C m H σ e Z) (hl : l.length = e.length) (hs : ∀ (i : Nat) s, l[i]? = some s → SlR (C.at_ H A) (fun _ => none) H (σ[i]?) i s) : SR (C.at_ H A) (fun _ => none) (fun _ => none) H σ l Z.g := by
  refine ⟨by rw [hl]; exact R.len, hs, fun i p h => (by cases h), fun i p h => (by cases h), fun i j p h => (by cases h), ⟨0, fun _ _ => rfl⟩, fun a o h _ => h, fun a o h => (by cases h), fun a h => ?_, R.tb, fun a h => ?_, fun r c h => ?_, fun r a b h => (by cases h)⟩
  · exact (R.io a ((io_at R.po).mp h)).1
  · obtain ⟨o, q⟩ := R.iox a ((io_at R.po).mp h)
    show H a ≠ none
    rw [q]; exact fun z => nomatch z
  · obtain ⟨h1, h2, h3, h4, h5⟩ := R.rg r c h
    exact ⟨(io_at R.po).mpr h1, fun z => h2 ((io_at R.po).mp z), (by show H c ≠ none; rw [h5.ce]; exact fun z => nomatch z), h5⟩
theorem MR.sr (R : MR C m H σ e Z) : SR (C.at_ H (C.Bm m)) (fun _ => none) (fun _ => none) H σ (lowE e) Z.g := R.sr_ (by unfold lowE; rw [List.length_map]) fun i s hs => by
  unfold lowE at hs
  rw [List.getElem?_map] at hs
  cases q : e[i]? with
  | none => rw [q] at hs; cases hs
  | some s0 =>
    rw [q] at hs
    have z := R.sl i s0 q
    cases s0 with
    | un => cases hs; trivial
    | rng => cases hs; exact z
    | v x =>
      cases x with
      | d x =>
        cases hs
        obtain ⟨v, e1, e2⟩ := z
        exact ⟨v, e1, e2.toD.mono (.same fun _ _ z => z) fun a q _ => ⟨.inl q, fun j h => (by cases h), fun hi => q.1.2 ((io_at R.po).mp hi)⟩⟩
      | o k => cases hs; trivial
      | t l => cases hs; trivial
      | l l => cases hs; trivial
theorem MR.srB (R : MR C m H σ e Z) : SR (C.at_ H (fun _ => True)) (fun _ => none) (fun _ => none) H σ (lowB Z.st e) Z.g := R.sr_ (by unfold lowB; rw [List.length_map]) fun i s hs => by
  unfold lowB at hs
  rw [List.getElem?_map] at hs
  cases q : e[i]? with
  | none => rw [q] at hs; cases hs
  | some s0 =>
    rw [q] at hs
    have z := R.sl i s0 q
    cases s0 with
    | un => cases hs; trivial
    | rng => cases hs; exact z
    | v x =>
      obtain ⟨v, e1, e2⟩ := z
      simp only [Option.map_some] at hs
      cases qs : snapV 8 Z.st x with
      | none => rw [qs] at hs; cases hs; trivial
      | some d =>
        rw [qs] at hs; cases hs
        exact ⟨v, e1, snap_rep R.st (fun a h => ⟨.inl trivial, fun j h => (by cases h), fun hi => h.2 ((io_at R.po).mp hi)⟩) (fun a h => ⟨.inl trivial, fun j h => (by cases h), fun hi => (R.io a ((io_at R.po).mp hi)).2 h⟩) 8 qs e2⟩
theorem StR.mono {g : G} {B B' : Addr → Prop} {H' : Hp} {st : List MO} (S : StR g B m H st) (k : MKeep B B' m m H H') (h : ∀ a, a ∈ m → H' a = H a) : StR g B' m H' st := ⟨S.len, S.nd, fun k' a o h1 h2 => by
  have q := S.ob k' a o h1 h2
  have e := h a (List.mem_of_getElem? h1)
  cases o with
  | lst l => obtain ⟨vs, q1, q2⟩ := q; exact ⟨vs, by rw [e]; exact q1, q2.mono k⟩
  | ins c ns l => obtain ⟨Ca, dx, vs, q0, q1, q2, q3⟩ := q; exact ⟨Ca, dx, vs, q0, by rw [e]; exact q1, q2, q3.mono k⟩⟩
theorem MR.backS {A : Addr → Prop} {H' : Hp} (R : MR C m H σ e Z) (x : ExtI (C.at_ H A) H H') : ∀ a, a ∈ m → H' a = H a := fun a h => by
  obtain ⟨o, q⟩ := R.mx a h
  rw [q]
  exact x a o q fun hi => (R.io a ((io_at R.po).mp hi)).2 h
theorem MR.back {A : Addr → Prop} {own : Own} {F H' : Hp} {l : En} {g' : Rng} (R : MR C m H σ e Z) (x : ExtI (C.at_ H A) H H') (S : SR (C.at_ H A) own F H' σ l g') : MExt C.io m H m H' ∧ MR C m H' σ e { Z with g := g' } := by
  have y : MExt C.io m H m H' := ⟨⟨[], by simp⟩, fun a o h _ n => x a o h fun hi => n ((io_at R.po).mp hi), fun a h => .inl h⟩
  have ms : ∀ a, a ∈ m → H' a = H a := fun a h => by
    obtain ⟨o, q⟩ := R.mx a h
    rw [q]
    exact x a o q fun hi => (R.io a ((io_at R.po).mp hi)).2 h
  refine ⟨y, R.len, R.slots y, R.st.mono (R.keep y) ms, fun a h => ⟨S.io a ((io_at R.po).mpr h), (R.io a h).2⟩, S.tb, fun r c h => ?_, R.po, fun a h => R.h0 a ?_, R.ih⟩
  · obtain ⟨h1, h2, h3, h4, _⟩ := R.rg r c h
    exact ⟨h1, h2, h3, h4, (S.rg r c h).2.2.2⟩
  · refine y.back (fun a h => ?_) (fun a h => ?_) h
    · obtain ⟨o, q, _⟩ := S.io a ((io_at R.po).mpr h)
      exact ⟨o, q⟩
    · rw [ms a h]; exact R.mx a h
theorem MR.gN (R : MR C m H σ e Z) (h : C.rg = none) (g' : Rng) : MR C m H σ e { Z with g := g' } := ⟨R.len, R.sl, R.st, R.io, R.tb, fun r c z => (by rw [h] at z; cases z), R.po, R.h0, R.ih⟩
theorem MR.al (R : MR C m H σ e Z) {a : Addr} (h : (C.at_ H (C.Bm m)).Al (fun _ => none) a) : C.Bm m a := h.1.elim id fun n => R.fresh n
def mLift (xe : Bool) (f : ME) : MM := fun e Z => match f (lowE e) Z.g with
  | .ok (d, g) => .ok (.d d) { Z with g := g }
  | .err x => if xe = true then .err x Z else .stuck
  | .stuck => .stuck
def tLift (xe : Bool) (f : MT) : MMT := fun e Z => match f (lowE e) Z.g with
  | .ok (d, g) => .ok d { Z with g := g }
  | .err x => if xe = true then .err x Z else .stuck
  | .stuck => .stuck
def fLift (xe : Bool) (f : MA) : MMA := fun e Z => match f (lowE e) Z.g with
  | .ok (d, g) => .ok (d.map .d) { Z with g := g }
  | .err x => if xe = true then .err x Z else .stuck
  | .stuck => .stuck
def mBor (xe : Bool) (f : ME) : MM := fun e Z => match f (lowB Z.st e) Z.g with
  | .ok (d, g) => if d.noLst = true then .ok (.d d) { Z with g := g } else .stuck
  | .err x => if xe = true ∧ D.noLstL x.l = true then .err x Z else .stuck
  | .stuck => .stuck
def tBor (xe : Bool) (f : MT) : MMT := fun e Z => match f (lowB Z.st e) Z.g with
  | .ok (d, g) => .ok d { Z with g := g }
  | .err x => if xe = true ∧ D.noLstL x.l = true then .err x Z else .stuck
  | .stuck => .stuck
theorem RepX.any {g : G} {H : Hp} {A A' : Addr → Prop} {x : Exc} {c : Value} {dd : Option Addr} (n : D.noLstL x.l = true) (r : RepX g H A x c dd) : RepX g H A' x c dd := by
  obtain ⟨Ca, d, vs, h1, h2, h3, h4, h5, h6⟩ := r
  exact ⟨Ca, d, vs, h1, h2, h3, h4, h5, h6.any n⟩
theorem RepX.up {g : G} {H : Hp} {A A' : Addr → Prop} {x : Exc} {c : Value} {dd : Option Addr} (n : ∀ a, A a → A' a) (r : RepX g H A x c dd) : RepX g H A' x c dd := by
  obtain ⟨Ca, d, vs, h1, h2, h3, h4, h5, h6⟩ := r
  exact ⟨Ca, d, vs, h1, h2, h3, h4, h5, h6.mono (.same fun _ _ z => z) fun a q _ => n a q⟩
variable {x : Expr} {xe : Bool}
theorem dm_lift {f : ME} (h : ∀ H0 A, DE (C.at_ H0 A) x f) (hx : xe = true → C.rg = none) : DM C x (mLift xe f) := ⟨fun pins s σ H Q I ⟨m, e, Z, R, o⟩ => (h H (C.Bm m)).run pins s σ H Q I ⟨fun _ => none, fun _ => none, lowE e, Z.g, R.sr, by
  unfold mLift at o
  unfold OutE
  cases hf : f (lowE e) Z.g with
  | ok p =>
    obtain ⟨d, g⟩ := p
    rw [hf] at o
    intro H' v y S r
    obtain ⟨y1, R1⟩ := R.back y S
    exact o m H' v y1 R1 (.ofD (r.mono (.same fun _ _ z => z) fun a q _ => R.al q))
  | err z =>
    rw [hf] at o
    cases xe with
    | false => exact (show False from o).elim
    | true =>
      intro H' c dd y ⟨g', S⟩ r
      obtain ⟨y1, R1⟩ := R.back y S
      exact o m H' c dd y1 (R1.gN (hx rfl) Z.g) (r.up fun a q => R.al q)
  | stuck => rw [hf] at o; exact o.elim⟩⟩
theorem dmt_lift {f : MT} (h : ∀ H0 A, DT (C.at_ H0 A) x f) (hx : xe = true → C.rg = none) : DMT C x (tLift xe f) := ⟨fun pins s σ H Q I ⟨m, e, Z, R, o⟩ => (h H (C.Bm m)).run pins s σ H Q I ⟨fun _ => none, fun _ => none, lowE e, Z.g, R.sr, by
  unfold tLift at o
  unfold OutT
  cases hf : f (lowE e) Z.g with
  | ok p =>
    obtain ⟨d, g⟩ := p
    rw [hf] at o
    intro H' y S
    obtain ⟨y1, R1⟩ := R.back y S
    exact o m H' y1 R1
  | err z =>
    rw [hf] at o
    cases xe with
    | false => exact (show False from o).elim
    | true =>
      intro H' c dd y ⟨g', S⟩ r
      obtain ⟨y1, R1⟩ := R.back y S
      exact o m H' c dd y1 (R1.gN (hx rfl) Z.g) (r.up fun a q => R.al q)
  | stuck => rw [hf] at o; exact o.elim⟩⟩
theorem lift_imp {f : MA} {σ : L2.St} {H : Hp} {Q : VK} (hx : xe = true → C.rg = none) : tMF C (fLift xe f) σ H Q → ∃ A, tDF (C.at_ H A) f σ H Q := fun ⟨m, e, Z, R, o⟩ => ⟨C.Bm m, fun _ => none, fun _ => none, lowE e, Z.g, R.sr, by
  unfold fLift at o
  unfold OutF
  cases hf : f (lowE e) Z.g with
  | ok p =>
    obtain ⟨d, g⟩ := p
    rw [hf] at o
    intro H' p vs y n hp S r
    obtain ⟨y1, R1⟩ := R.back y S
    exact o H' p vs y1 (R.backS y) n hp R1 (.ofL (r.mono (.same fun _ _ z => z) fun a q _ => ⟨⟨(R.al q.1).1, q.2⟩, (R.al q.1).2⟩))
  | err z =>
    rw [hf] at o
    cases xe with
    | false => exact (show False from o).elim
    | true =>
      intro H' c dd y ⟨g', S⟩ r
      obtain ⟨y1, R1⟩ := R.back y S
      exact o m H' c dd y1 (R1.gN (hx rfl) Z.g) (r.up fun a q => R.al q)
  | stuck => rw [hf] at o; exact o.elim⟩
theorem dm_bor {f : ME} (h : ∀ H0 A, DE (C.at_ H0 A) x f) (hx : xe = true → C.rg = none) : DM C x (mBor xe f) := ⟨fun pins s σ H Q I ⟨m, e, Z, R, o⟩ => (h H (fun _ => True)).run pins s σ H Q I ⟨fun _ => none, fun _ => none, lowB Z.st e, Z.g, R.srB, by
  unfold mBor at o
  unfold OutE
  cases hf : f (lowB Z.st e) Z.g with
  | ok p =>
    obtain ⟨d, g⟩ := p
    rw [hf] at o
    intro H' v y S r
    obtain ⟨y1, R1⟩ := R.back y S
    by_cases hd : d.noLst = true
    · simp only [hd, if_true] at o
      exact o m H' v y1 R1 (.ofD (r.any hd))
    · simp only [hd, if_false] at o; exact (show False from o).elim
  | err z =>
    rw [hf] at o
    by_cases hd : xe = true ∧ D.noLstL z.l = true
    · simp only [hd, and_self, if_true] at o
      intro H' c dd y ⟨g', S⟩ r
      obtain ⟨y1, R1⟩ := R.back y S
      exact o m H' c dd y1 (R1.gN (hx hd.1) Z.g) (r.any hd.2)
    · simp only [hd, if_false] at o; exact (show False from o).elim
  | stuck => rw [hf] at o; exact o.elim⟩⟩
theorem dmt_bor {f : MT} (h : ∀ H0 A, DT (C.at_ H0 A) x f) (hx : xe = true → C.rg = none) : DMT C x (tBor xe f) := ⟨fun pins s σ H Q I ⟨m, e, Z, R, o⟩ => (h H (fun _ => True)).run pins s σ H Q I ⟨fun _ => none, fun _ => none, lowB Z.st e, Z.g, R.srB, by
  unfold tBor at o
  unfold OutT
  cases hf : f (lowB Z.st e) Z.g with
  | ok p =>
    obtain ⟨d, g⟩ := p
    rw [hf] at o
    intro H' y S
    obtain ⟨y1, R1⟩ := R.back y S
    exact o m H' y1 R1
  | err z =>
    rw [hf] at o
    by_cases hd : xe = true ∧ D.noLstL z.l = true
    · simp only [hd, and_self, if_true] at o
      intro H' c dd y ⟨g', S⟩ r
      obtain ⟨y1, R1⟩ := R.back y S
      exact o m H' c dd y1 (R1.gN (hx hd.1) Z.g) (r.any hd.2)
    · simp only [hd, if_false] at o; exact (show False from o).elim
  | stuck => rw [hf] at o; exact o.elim⟩⟩
def mOfF (f : MMA) : MM := fun e Z => (f e Z).bind fun l Z1 => match asD l with
  | some ds => .ok (.d (.lst ds)) Z1
  | none => .ok (.l l) Z1
theorem ofF_imp {f : MMA} {σ : L2.St} {H : Hp} {Q : VK} : tM C (mOfF f) σ H Q → tMF C f σ H Q := fun ⟨m, e, Z, R, o⟩ => ⟨m, e, Z, R, by
  unfold mOfF at o
  cases hf : f e Z with
  | ok l Z1 =>
    rw [hf] at o
    intro H' p vs y hx n hp R1 r
    have o' : OutM C m H σ e (match asD l with | some ds => .ok (.d (.lst ds)) Z1 | none => .ok (.l l) Z1) Q := o
    have bp : C.B p ∧ p ∉ m := R.fresh n
    have r' : C.RMs m H' l vs := r.mono ⟨⟨[], by simp⟩, .same fun _ _ z => z, fun a q _ => ⟨q.1.1, q.2⟩⟩
    cases ha : asD l with
    | some ds =>
      rw [ha] at o'
      exact o' m H' _ y R1 (.ofD (.lst_ bp hp (r'.asD ha)))
    | none =>
      rw [ha] at o'
      exact o' m H' _ y R1 (by rw [Ctx.RM, RepM]; exact ⟨p, vs, rfl, bp, hp, r'⟩)
  | err z Y => rw [hf] at o; exact o
  | stuck => rw [hf] at o; exact o.elim⟩
end
end DL
set_option Elab.async false
set_option linter.all false
set_option maxRecDepth 100000
namespace DL
open PySem PySem.Spec PyProof.Rows L2
section
variable {C : Ctx} {m m1 : List Addr} {H H1 H' : Hp} {σ : L2.St} {e : MEn} {Z Z1 : MSt} {x a b c : Expr} {fa fb : MM} {fs fk : MMA} {pos : Pos}
def mVar (i : Nat) : MM := fun e Z => match e[i]? with
  | some (.v x) => .ok x Z
  | _ => .stuck
theorem dm_var {i : Nat} (h : PE C.X x (tVar i)) : DM C x (mVar i) := pe_imp h fun σ H Q ⟨m, e, Z, R, o⟩ => by
  unfold mVar at o
  cases hs : e[i]? with
  | none => rw [hs] at o; exact (show False from o).elim
  | some s =>
    rw [hs] at o
    cases s with
    | v w =>
      obtain ⟨v, e1, e2⟩ := R.sl i _ hs
      exact ⟨v, e1, OutM.now R o e2⟩
    | un => exact (show False from o).elim
    | rng => exact (show False from o).elim
theorem mext_new {X : Addr → Prop} {p : Addr} {o : HO} (n : H p = none) : MExt X m H m (L2.upd H p o) := ⟨⟨[], by simp⟩, fun a q h _ _ => by rw [upd_ne (ne_of_none h n)]; exact h, fun a h => .inl h⟩
theorem MR.new (R : MR C m H σ e Z) {p : Addr} {o : HO} (n : H p = none) : MR C m (L2.upd H p o) σ e Z := by
  have y : MExt C.io m H m (L2.upd H p o) := mext_new n
  have s : Same H (L2.upd H p o) := fun a q h => by rw [upd_ne (ne_of_none h n)]; exact h
  refine ⟨R.len, R.slots y, R.st.mono (R.keep y) fun a h => ?_, fun a h => ⟨?_, (R.io a h).2⟩, R.tb.ext s, fun r c h => ?_, R.po, fun a h => R.h0 a ?_, R.ih⟩
  · obtain ⟨q, e⟩ := R.mx a h
    exact upd_ne (ne_of_none e n)
  · obtain ⟨⟨q, e, mo⟩, _⟩ := R.io a h
    exact ⟨q, s _ _ e, mo⟩
  · obtain ⟨h1, h2, h3, h4, h5⟩ := R.rg r c h
    exact ⟨h1, h2, h3, h4, h5.same s⟩
  · cases q : H a with
    | none => rfl
    | some ob => rw [s _ _ q] at h; cases h
variable {ta tb : MMT} {rest : List Expr}
def mIx (a b : MM) : MM := fun e Z => (a e Z).bind fun w Z1 => (b e Z1).bind fun y Z2 => match w, y with
  | .t l, .d (.int i) => match atI l i with | some d => .ok d Z2 | none => .stuck
  | .l l, .d (.int i) => match atI l i with | some d => .ok d Z2 | none => .stuck
  | .o k, .d (.int i) => match Z2.st[k]? with
    | some (.lst l) => match atI l i with | some d => .ok d Z2 | none => .stuck
    | _ => .stuck
  | .d u, .d v => match dIx u v with
    | .ok d => .ok (.d d) Z2
    | _ => .stuck
  | _, _ => .stuck
theorem atI_repM {g : G} {B : Addr → Prop} {l : List MV} {vs : List V} {i : Int} {d : MV} (h : RepMs g B m H l vs) (e : atI l i = some d) : ∃ v, atI vs i = some v ∧ RepM g B m H d v := by
  unfold atI at e ⊢
  rw [← h.length]
  cases hx : ixN l.length i with
  | none => rw [hx] at e; cases e
  | some j =>
    rw [hx] at e
    exact h.get e
theorem OutM.toV (R : MR C m H σ e Z) {r : Res D} {Q : VK} (h : OutM C m H σ e (match r with | .ok d => .ok (.d d) Z | _ => .stuck) Q) : OutV C.g H (C.Bm m) r Q := by
  cases r with
  | ok d =>
    intro H' v s rp
    have y : MExt C.io m H m H' := ⟨⟨[], by simp⟩, fun a o z _ _ => s a o z, fun a z => .inl z⟩
    have R' : MR C m H' σ e Z := by
      refine ⟨R.len, R.slots y, R.st.mono (R.keep y) fun a h => ?_, fun a h => ⟨?_, (R.io a h).2⟩, R.tb.ext s, fun r c h => ?_, R.po, fun a h => R.h0 a ?_, R.ih⟩
      · obtain ⟨q, e⟩ := R.mx a h
        rw [e]; exact s _ _ e
      · obtain ⟨⟨q, e, mo⟩, _⟩ := R.io a h
        exact ⟨q, s _ _ e, mo⟩
      · obtain ⟨h1, h2, h3, h4, h5⟩ := R.rg r c h
        exact ⟨h1, h2, h3, h4, h5.same s⟩
      · cases q : H a with
        | none => rfl
        | some ob => rw [s _ _ q] at h; cases h
    exact h m H' v y R' (.ofD (rp.mono (.same fun _ _ z => z) fun a q _ => q.elim id R.fresh))
  | err x => exact h
  | stuck => exact h
theorem dm_ix (ha : DM C a fa) (hb : DM C b fb) (hr : IxR C.X (rIx C.g.K)) (hs : PlainIx b) : DM C (.Subscript a b pos) (mIx fa fb) :=
  pe_imp (pe_ix hr ha hb hs) fun σ H Q ⟨m, e, Z, R, o⟩ => ⟨m, e, Z, R, OutM.bM o fun w Z1 m1 H1 v x1 R1 r1 o1 => ⟨m1, e, Z1, R1, OutM.bM o1 fun y Z2 m2 H2 u x2 R2 r2 o2 => by
    have r1' := R1.rm x2 r1
    cases y <;> first | (cases w <;> exact (show False from o2).elim) | skip
    rename_i y
    cases w with
    | d w =>
      simp only at o2
      exact opD_ix w y v u H2 (C.Bm m2) Q r1'.toD r2.toD (OutM.toV R2 (by
        cases q : dIx w y with
        | ok d => rw [q] at o2; exact o2
        | err z => rw [q] at o2; exact o2
        | stuck => rw [q] at o2; exact o2))
    | t l =>
      cases y <;> first | exact (show False from o2).elim | skip
      rename_i i
      simp only at o2
      obtain ⟨a, vs, rfl, h1, h2⟩ := r1'.toT
      cases hx : atI l i with
      | none => rw [hx] at o2; exact (show False from o2).elim
      | some d =>
        rw [hx] at o2
        obtain ⟨q, q1, q2⟩ := atI_repM h2 hx
        exact .inr (.inl ⟨a, vs, i, q, rfl, r2.toD.toInt, h1, q1, OutM.now R2 o2 q2⟩)
    | l l =>
      cases y <;> first | exact (show False from o2).elim | skip
      rename_i i
      simp only at o2
      rw [Ctx.RM, RepM] at r1'
      obtain ⟨a, vs, rfl, h0, h1, h2⟩ := r1'
      cases hx : atI l i with
      | none => rw [hx] at o2; exact (show False from o2).elim
      | some d =>
        rw [hx] at o2
        obtain ⟨q, q1, q2⟩ := atI_repM h2 hx
        exact .inl ⟨a, vs, i, q, rfl, r2.toD.toInt, SqL.of h1, q1, OutM.now R2 o2 q2⟩
    | o k =>
      cases y <;> first | exact (show False from o2).elim | skip
      rename_i i
      simp only at o2
      obtain ⟨a, hk, rfl⟩ := r1'.toO
      cases hs : Z2.st[k]? with
      | none => rw [hs] at o2; exact (show False from o2).elim
      | some ob =>
        rw [hs] at o2
        cases ob with
        | ins c ns l => exact (show False from o2).elim
        | lst l =>
          obtain ⟨vs, h1, h2⟩ := R2.st.ob k a _ hk hs
          simp only at o2
          cases hx : atI l i with
          | none => rw [hx] at o2; exact (show False from o2).elim
          | some d =>
            rw [hx] at o2
            obtain ⟨q, q1, q2⟩ := atI_repM h2 hx
            exact .inl ⟨a, vs, i, q, rfl, r2.toD.toInt, SqL.of h1, q1, OutM.now R2 o2 q2⟩⟩⟩
theorem MR.call (R : MR C m H σ e Z) (s : SameT C.tb H H') (t : Tabs C.tb H') : MExt C.io m H m H' ∧ MR C m H' σ e Z := by
  have y : MExt C.io m H m H' := ⟨⟨[], by simp⟩, fun a o z _ n => s a o z fun p hp q => n (.inr ⟨p, hp, q⟩), fun a z => .inl z⟩
  have ms : ∀ a, a ∈ m → H' a = H a := fun a h => by
    obtain ⟨o, q⟩ := R.mx a h
    rw [q]
    exact s a o q fun p hp z => (R.io a (.inr ⟨p, hp, z⟩)).2 h
  have nt : ∀ a xs, H a = some (.lst xs) → ∀ p ∈ C.tb, p.1 ≠ a := fun a xs h p hp z => by
    obtain ⟨ps, h1, _⟩ := R.tb p hp
    rw [z, h] at h1; cases h1
  have rg : ∀ r c, C.rg = some (r, c) → RngAt H' r c Z.g := fun r c h => by
    obtain ⟨_, _, _, _, q⟩ := R.rg r c h
    exact ⟨q.ne, s _ _ q.at_ (nt _ _ q.at_), s _ _ q.ce (nt _ _ q.ce), q.i0, q.b0, q.s0, q.s1, q.cl⟩
  have io' : ∀ a, C.io a → ∃ o, H' a = some o ∧ MutO o := fun a h => by
    rcases h with (⟨c, z⟩ | ⟨r, b, z | z⟩) | ⟨p, hp, rfl⟩
    · exact ⟨_, (rg a c z).at_, .inl ⟨_, rfl⟩⟩
    · rw [R.po] at z; cases z
    · rw [R.po] at z; cases z
    · exact t.at_ hp
  refine ⟨y, R.len, R.slots y, R.st.mono (R.keep y) ms, fun a h => ⟨io' a h, (R.io a h).2⟩, t, fun r c h => ?_, R.po, fun a h => R.h0 a ?_, R.ih⟩
  · obtain ⟨h1, h2, h3, h4, _⟩ := R.rg r c h
    exact ⟨h1, h2, h3, h4, rg r c h⟩
  · refine y.back (fun a h => ?_) (fun a h => ?_) h
    · obtain ⟨o, q, _⟩ := io' a h; exact ⟨o, q⟩
    · rw [ms a h]; exact R.mx a h
def mRes (r : Res D) (Z : MSt) : RM MV := match r with
  | .ok d => .ok (.d d) Z
  | .err x => .err x Z
  | .stuck => .stuck
theorem OutM.toD (R : MR C m H σ e Z) {r : Res D} {Q : VK} (h : OutM C m H σ e (mRes r Z) Q) : OutD C.g H (C.Bm m) (fun c dd H' => C.W c dd σ H') r Q := by
  cases r with
  | ok d =>
    intro H' v s t rp
    obtain ⟨y, R'⟩ := R.call s t
    exact h m H' v y R' (.ofD (rp.mono (.same fun _ _ z => z) fun a q _ => q.elim id R.fresh))
  | err x =>
    intro H' c dd s t rp
    obtain ⟨y, R'⟩ := R.call s t
    exact h m H' c dd y R' (rp.up fun a q => q.elim id R.fresh)
  | stuck => exact h
variable {nx xn cls mn nm qual : Str} {es : List Expr} {kws : List Keyword} {p apos : Pos} {k n : Nat} {f Ca : Addr} {ps ks : List Str} {st : Stmt} {dvs msv : List V} {kd : List (Str × V)} {dd md : List D} {src : List Src} {mm : List D → Res D} {fo : MM} {obj : Expr}
end
end DL
set_option Elab.async false
set_option linter.all false
set_option maxRecDepth 100000
namespace DL
open PySem PySem.Spec PyProof.Rows L2
section
variable {C : Ctx} {m m1 : List Addr} {H H1 H' : Hp} {σ : L2.St} {e : MEn} {Z Z1 : MSt} {x a b c o : Expr} {fa fb fo fv : MM} {fs fk : MMA} {pos : Pos}
theorem mext_upd {X : Addr → Prop} {k : Nat} {p : Addr} {u : HO} (hk : m[k]? = some p) : MExt X m H m (L2.upd H p u) := ⟨⟨[], by simp⟩, fun q o h n _ => by
  have : q ≠ p := fun z => n (by rw [z]; exact List.mem_of_getElem? hk)
  rw [upd_ne this]; exact h, fun a h => .inl h⟩
theorem MR.put (R : MR C m H σ e Z) {k : Nat} {p : Addr} {u : HO} {w : MO} (hk : m[k]? = some p) (hu : (∃ vs, u = .lst vs) ∨ ∃ c dx fs, u = .ins c dx fs) (ho : ObjM C.g C.B m (L2.upd H p u) p w) : MR C m (L2.upd H p u) σ e { Z with st := Z.st.set k w } := by
  have y : MExt C.io m H m (L2.upd H p u) := mext_upd hk
  have hm := List.mem_of_getElem? hk
  have ne : ∀ a, a ∉ m → a ≠ p := fun a h z => h (z ▸ hm)
  obtain ⟨ob, hob, hsh⟩ := R.st.mem hm
  refine ⟨R.len, R.slots y, ⟨by rw [List.length_set]; exact R.st.len, R.st.nd, fun j a o h1 h2 => ?_⟩, fun a h => ⟨?_, (R.io a h).2⟩, ?_, fun r c h => ?_, R.po, fun a h => R.h0 a ?_, R.ih⟩
  · by_cases hj : k = j
    · subst hj
      rw [hk] at h1; cases h1
      rw [List.getElem?_set_self (by rw [← R.st.len]; exact (List.getElem?_eq_some_iff.mp hk).1)] at h2
      cases h2
      exact ho
    · rw [List.getElem?_set_ne hj] at h2
      have na : a ≠ p := fun z => by
        rw [z] at h1
        have hk' := List.getElem?_eq_some_iff.mp hk
        have h1' := List.getElem?_eq_some_iff.mp h1
        obtain ⟨q1, q2⟩ := hk'
        obtain ⟨q3, q4⟩ := h1'
        exact hj ((List.getElem_inj R.st.nd).mp (q2.trans q4.symm))
      have q := R.st.ob j a o h1 h2
      cases o with
      | lst l => obtain ⟨vs, q1, q2⟩ := q; exact ⟨vs, by rw [upd_ne na]; exact q1, R.rms y q2⟩
      | ins c ns l => obtain ⟨Ca, dx, vs, q0, q1, q2, q3⟩ := q; exact ⟨Ca, dx, vs, q0, by rw [upd_ne na]; exact q1, q2, R.rms y q3⟩
  · obtain ⟨⟨q, e1, e2⟩, n⟩ := R.io a h
    exact ⟨q, by rw [upd_ne (ne a n)]; exact e1, e2⟩
  · intro q hq
    obtain ⟨ps, h1, h2, h3⟩ := R.tb q hq
    refine ⟨ps, by rw [upd_ne (ne _ (R.io _ (.inr ⟨q, hq, rfl⟩)).2)]; exact h1, h2, fun ps' cv hc => ?_⟩
    obtain ⟨c, q1, q2⟩ := h3 ps' cv hc
    have nc : c ≠ p := fun z => by
      rw [z, hob] at q2
      unfold LamX.CodeO at q2
      rcases hsh with ⟨_, rfl⟩ | ⟨_, _, _, rfl⟩ <;> cases q2
    exact ⟨c, q1, by rw [upd_ne nc]; exact q2⟩
  · obtain ⟨h1, h2, h3, h4, h5⟩ := R.rg r c h
    exact ⟨h1, h2, h3, h4, h5.ne, by rw [upd_ne (ne _ (R.io _ h1).2)]; exact h5.at_, by rw [upd_ne (ne _ h3)]; exact h5.ce, h5.i0, h5.b0, h5.s0, h5.s1, h5.cl⟩
  · by_cases z : a = p
    · rw [z, upd_same] at h; cases h
    · rw [upd_ne z] at h; exact h
theorem MR.push (R : MR C m H σ e Z) {p : Addr} {u : HO} {w : MO} {Z1 : MSt} (x : MExt C.io m H m H') (R1 : MR C m H' σ e Z1) (hs : Z1.st = Z.st) (n : H p = none) (hp : H' p = some u) (ho : ObjM C.g C.B (m ++ [p]) H' p w) (hx : ∀ a, a ∈ m → H' a = H a) : MExt C.io m H (m ++ [p]) H' ∧ MR C (m ++ [p]) H' σ e { Z1 with st := Z1.st ++ [w] } := by
  have y : MExt C.io m H (m ++ [p]) H' := ⟨⟨[p], rfl⟩, x.kp, fun a h => by
    rcases List.mem_append.mp h with h | h
    · exact .inl h
    · rw [List.mem_singleton.mp h]; exact .inr n⟩
  have pm : p ∉ m := (R.fresh n).2
  refine ⟨y, R.len, R.slots y, ⟨by rw [List.length_append, List.length_append, R1.st.len]; rfl, ?_, fun j a o h1 h2 => ?_⟩, fun a h => ⟨(R1.io a h).1, fun z => ?_⟩, R1.tb, fun r c h => ?_, R.po, R1.h0, R.ih⟩
  · rw [List.nodup_append]
    exact ⟨R.st.nd, by simp, fun a ha b hb => by rw [List.mem_singleton.mp hb]; exact fun z => pm (z ▸ ha)⟩
  · by_cases hj : j < m.length
    · rw [List.getElem?_append_left hj] at h1
      have hj2 : j < Z1.st.length := by rw [← R1.st.len]; exact hj
      rw [List.getElem?_append_left hj2, hs] at h2
      have q := R.st.ob j a o h1 h2
      have ea := hx a (List.mem_of_getElem? h1)
      cases o with
      | lst l => obtain ⟨vs, q1, q2⟩ := q; exact ⟨vs, by rw [ea]; exact q1, q2.mono (R.keep y)⟩
      | ins c ns l => obtain ⟨Ca, dx, vs, q0, q1, q2, q3⟩ := q; exact ⟨Ca, dx, vs, q0, by rw [ea]; exact q1, q2, q3.mono (R.keep y)⟩
    · rw [List.getElem?_append_right (by omega)] at h1
      rw [List.getElem?_append_right (by rw [← R1.st.len]; omega), ← R1.st.len] at h2
      cases hz : j - m.length with
      | zero =>
        rw [hz] at h1 h2
        cases h1; cases h2
        exact ho
      | succ i => rw [hz] at h1; simp at h1
  · rcases List.mem_append.mp z with z | z
    · exact (R.io a h).2 z
    · rw [List.mem_singleton.mp z] at h
      exact (R.fresh n).1.2 h
  · obtain ⟨h1, h2, h3, h4, h5⟩ := R1.rg r c h
    refine ⟨h1, h2, fun z => ?_, h4, h5⟩
    rcases List.mem_append.mp z with z | z
    · exact h3 z
    · have hc := R.h0 p n
      rw [← List.mem_singleton.mp z] at hc
      exact h4 hc
def mApp (fo fv : MM) : MM := fun e Z => (fo e Z).bind fun w Z1 => match w with
  | .o k => match Z1.st[k]? with
    | some (.lst _) => (fv e Z1).bind fun y Z2 => match Z2.st[k]? with
      | some (.lst l) => if l.length < 1000 then .ok (.d .non) { Z2 with st := Z2.st.set k (.lst (l ++ [y])) } else .stuck
      | _ => .stuck
    | _ => .stuck
  | _ => .stuck
theorem lst_at {k : Nat} {l : List MV} {v : V} (R : MR C m H σ e Z) (r : C.RM m H (.o k) v) (h : Z.st[k]? = some (.lst l)) : ∃ p vs, v = .ref p ∧ m[k]? = some p ∧ H p = some (.lst vs) ∧ C.RMs m H l vs := by
  obtain ⟨p, hk, rfl⟩ := r.toO
  obtain ⟨vs, q1, q2⟩ := R.st.ob k p _ hk h
  exact ⟨p, vs, rfl, hk, q1, q2⟩
theorem dm_app (h : ∀ {to : TE} {t : TE}, PE C.X o to → PE C.X a t → PE C.X x (tBM C.X.K "list" rAppend to (tCons t tNil))) (ho : DM C o fo) (ha : DM C a fv) : DM C x (mApp fo fv) :=
  pe_imp (h ho ha) fun σ H Q ⟨m, e, Z, R, q⟩ => ⟨m, e, Z, R, OutM.bM q fun w Z1 m1 H1 v x1 R1 r1 o1 => by
    cases w <;> first | exact (show False from o1).elim | skip
    rename_i k
    cases hs : Z1.st[k]? with
    | none => simp only [hs] at o1; exact (show False from o1).elim
    | some ob =>
      simp only [hs] at o1
      cases ob with
      | ins c ns l => exact (show False from o1).elim
      | lst l0 =>
        obtain ⟨p, vs0, rfl, hk, hp0, _⟩ := lst_at R1 r1 hs
        refine ⟨.inl ⟨rfl, vs0, SqL.of hp0⟩, m1, e, Z1, R1, OutM.bM o1 fun y Z2 m2 H2 u x2 R2 r2 o2 => ?_⟩
        cases hs2 : Z2.st[k]? with
        | none => simp only [hs2] at o2; exact (show False from o2).elim
        | some ob =>
          simp only [hs2] at o2
          cases ob with
          | ins c ns l => exact (show False from o2).elim
          | lst l =>
            obtain ⟨p', vs, e', hk', hp, rl⟩ := lst_at R2 (R1.rm x2 r1) hs2
            cases e'
            by_cases hl : l.length < 1000
            · simp only [hl, if_true] at o2
              have y2 : MExt C.io m2 H2 m2 (L2.upd H2 p (.lst (vs ++ [u]))) := mext_upd hk'
              refine ⟨p, vs, u, rfl, rfl, hp, by rw [← rl.length]; exact lt_line hl, o2 m2 _ _ y2 (R2.put hk' (.inl ⟨_, rfl⟩) ⟨_, upd_same, ?_⟩) (.ofD .non_)⟩
              exact (R2.rms y2 rl).append (.cons (R2.rm y2 r2) .nil)
            · simp only [hl, if_false] at o2; exact (show False from o2).elim⟩
end
end DL
set_option Elab.async false
set_option linter.all false
set_option maxRecDepth 100000
namespace DL
open PySem PySem.Spec PyProof.Rows L2
inductive RS where
  | nx (e : MEn) (Z : MSt) | bk (e : MEn) (Z : MSt) | ct (e : MEn) (Z : MSt) | rt (w : MV) (Z : MSt) | err (x : Exc) (Z : MSt) | stuck
abbrev MMS := MEn → MSt → RS
def xS {α : Type} (r : RM α) (k : α → MSt → RS) : RS := match r with
  | .ok w Z => k w Z
  | .err x Z => .err x Z
  | .stuck => .stuck
def OutMS (C : Ctx) (m : List Addr) (H : Hp) (r : RS) (D : Ends) : Prop := match r with
  | .nx e Z => ∀ m' σ H', MExt C.io m H m' H' → MR C m' H' σ e Z → D.nx σ H'
  | .bk e Z => ∀ m' σ H', MExt C.io m H m' H' → MR C m' H' σ e Z → D.bk σ H'
  | .ct e Z => ∀ m' σ H', MExt C.io m H m' H' → MR C m' H' σ e Z → D.ct σ H'
  | .rt w Z => ∀ m' σ e H' v, MExt C.io m H m' H' → MR C m' H' σ e Z → C.RM m' H' w v → D.rt v H'
  | .err x Z => ∀ m' σ e H' c dd, MExt C.io m H m' H' → MR C m' H' σ e Z → RepX C.g H' (C.Bm m') x c dd → C.W c dd σ H'
  | .stuck => False
def tMS (C : Ctx) (f : MMS) : TS := fun D σ H => ∃ m e Z, MR C m H σ e Z ∧ OutMS C m H (f e Z) D
def DMS (C : Ctx) (x : Stmt) (f : MMS) : Prop := PS C.X x (tMS C f)
def DMSs (C : Ctx) (x : List Stmt) (f : MMS) : Prop := PSs C.X x (tMS C f)
section
variable {C : Ctx} {m m1 : List Addr} {H H1 H' : Hp} {σ σ1 : L2.St} {e e1 : MEn} {Z Z1 : MSt} {x a b c o tg : Expr} {fa fb fo fv : MM} {fs fk : MMA} {pos : Pos} {st : Stmt} {rest sts : List Stmt} {f1 f2 : MMS} {D : Ends}
theorem OutMS.step {r : RS} (h : OutMS C m H r D) (y : MExt C.io m H m1 H1) (R : MR C m1 H1 σ1 e1 Z1) : OutMS C m1 H1 r D := by
  cases r with
  | nx e Z => exact fun m' σ H' x2 => h m' σ H' (y.tr R x2)
  | bk e Z => exact fun m' σ H' x2 => h m' σ H' (y.tr R x2)
  | ct e Z => exact fun m' σ H' x2 => h m' σ H' (y.tr R x2)
  | rt w Z => exact fun m' σ e H' v x2 => h m' σ e H' v (y.tr R x2)
  | err x Z => exact fun m' σ e H' c dd x2 => h m' σ e H' c dd (y.tr R x2)
  | stuck => exact h
theorem OutMS.bM {r : RM MV} {k : MV → MSt → RS} {Q1 : VK} (h : OutMS C m H (xS r k) D) (hq : ∀ w Z1 m1 H1 v, MExt C.io m H m1 H1 → MR C m1 H1 σ e Z1 → C.RM m1 H1 w v → OutMS C m1 H1 (k w Z1) D → Q1 v H1) : OutM C m H σ e r Q1 := by
  cases r with
  | ok w Y => exact fun m' H' v x R r => hq w Y m' H' v x R r (OutMS.step h x R)
  | err x Y => exact fun m' H' c dd x R r => h m' σ e H' c dd x R r
  | stuck => exact h
theorem OutMS.bT {r : RM Bool} {k : Bool → MSt → RS} {Q1 : Bool → Hp → Prop} (h : OutMS C m H (xS r k) D) (hq : ∀ w Z1 m1 H1, MExt C.io m H m1 H1 → MR C m1 H1 σ e Z1 → OutMS C m1 H1 (k w Z1) D → Q1 w H1) : OutMT C m H σ e r Q1 := by
  cases r with
  | ok w Y => exact fun m' H' x R => hq w Y m' H' x R (OutMS.step h x R)
  | err x Y => exact fun m' H' c dd x R r => h m' σ e H' c dd x R r
  | stuck => exact h
theorem MR.set (R : MR C m H σ e Z) {i : Nat} {w : MV} {v : V} (r : C.RM m H w v) : MR C m H (σ.set i (some v)) (e.set i (.v w)) Z := by
  refine ⟨by simp [R.len], fun j s hs => ?_, R.st, R.io, R.tb, R.rg, R.po, R.h0, R.ih⟩
  by_cases hj : i = j
  · subst hj
    have hi : i < e.length := by
      have := (List.getElem?_eq_some_iff.mp hs).1
      simpa using this
    rw [List.getElem?_set_self hi] at hs
    cases hs
    exact ⟨v, by rw [List.getElem?_set_self (by rw [R.len]; exact hi)], r⟩
  · rw [List.getElem?_set_ne hj] at hs
    rw [List.getElem?_set_ne hj]
    exact R.sl j s hs
def msNx : MMS := fun e Z => .nx e Z
def msSeq (a b : MMS) : MMS := fun e Z => match a e Z with
  | .nx e' Z' => b e' Z'
  | r => r
theorem dmss_nil : DMSs C [] msNx := pss_imp pss_nil fun D σ H ⟨m, e, Z, R, o⟩ => o m σ H .refl R
theorem dmss_cons (h1 : DMS C st f1) (h2 : DMSs C rest f2) : DMSs C (st :: rest) (msSeq f1 f2) := pss_imp (pss_cons h1 h2) fun D σ H ⟨m, e, Z, R, o⟩ => ⟨m, e, Z, R, by
  unfold msSeq at o
  cases hf : f1 e Z with
  | nx e' Z' => rw [hf] at o; exact fun m' σ' H' y R' => ⟨m', e', Z', R', OutMS.step o y R'⟩
  | bk e' Z' => rw [hf] at o; exact o
  | ct e' Z' => rw [hf] at o; exact o
  | rt w Z' => rw [hf] at o; exact o
  | err y Z' => rw [hf] at o; exact o
  | stuck => rw [hf] at o; exact o.elim⟩
theorem dmss_one (h1 : DMS C st f1) : DMSs C [st] f1 := pss_one h1
def msAsg (i : Nat) (f : MM) : MMS := fun e Z => xS (f e Z) fun w Z1 => .nx (e.set i (.v w)) Z1
theorem dms_set {i : Nat} (h : ∀ {t : TE}, PE C.X x t → PS C.X st (tAsg t (gName i))) (ha : DM C x fa) : DMS C st (msAsg i fa) := ps_imp (h ha) fun D σ H ⟨m, e, Z, R, o⟩ => ⟨m, e, Z, R, OutMS.bM o fun w Z1 m1 H1 v x1 R1 r1 o1 => o1 m1 _ H1 .refl (R1.set r1)⟩
def setsE : List Nat → List MV → MEn → Option MEn
  | [], [], e => some e
  | i :: is, w :: l, e => setsE is l (e.set i (.v w))
  | _, _, _ => none
def parts : MV → Option (List MV)
  | .d (.tup ds) => some (ds.map .d)
  | .t l => some l
  | _ => none
def msUnp (is : List Nat) (f : MM) : MMS := fun e Z => xS (f e Z) fun w Z1 => match parts w with
  | some l => match setsE is l e with
    | some e' => .nx e' Z1
    | none => .stuck
  | none => .stuck
def gNames : List Nat → TGs
  | [] => gNil
  | i :: is => gCons (gName i) (gNames is)
theorem gNames_run : ∀ {is : List Nat} {l : List MV} {e e' : MEn} {vs : List V} {σ : L2.St} {Q : L2.St → Hp → Prop}, setsE is l e = some e' → MR C m H σ e Z → C.RMs m H l vs → (∀ σ', MR C m H σ' e' Z → Q σ' H) → gNames is vs σ H Q
  | [], [], e, e', vs, σ, Q, h, R, r, k => by
    cases h
    exact ⟨r.toNil, k σ R⟩
  | [], w :: l, e, e', vs, σ, Q, h, R, r, k => by cases h
  | i :: is, [], e, e', vs, σ, Q, h, R, r, k => by cases h
  | i :: is, w :: l, e, e', vs, σ, Q, h, R, r, k => by
    obtain ⟨v, r', rfl, rv, rr⟩ := r.toCons
    exact ⟨v, r', rfl, gNames_run h (R.set rv) rr k⟩
theorem setsE_len : ∀ {is : List Nat} {l : List MV} {e e' : MEn}, setsE is l e = some e' → l.length = is.length
  | [], [], e, e', h => rfl
  | [], w :: l, e, e', h => by cases h
  | i :: is, [], e, e', h => by cases h
  | i :: is, w :: l, e, e', h => by simp [setsE_len (is := is) h]
theorem parts_rep {g : G} {B : Addr → Prop} {w : MV} {v : V} {l : List MV} (h : parts w = some l) (r : RepM g B m H w v) : ∃ p vs, v = .ref p ∧ SqT g.K H p vs ∧ RepMs g B m H l vs := by
  cases w with
  | d x =>
    cases x <;> first | cases h | skip
    obtain ⟨p, vs, rfl, h1, h2⟩ := r.toD.toTup
    exact ⟨p, vs, rfl, h1, .ofL h2⟩
  | t l' => cases h; exact r.toT
  | o k => cases h
  | l k => cases h
theorem dms_unp {is : List Nat} (h : ∀ {t : TE}, PE C.X x t → PS C.X st (tAsg t (gTup C.X.K is.length (gNames is)))) (ha : DM C x fa) : DMS C st (msUnp is fa) := ps_imp (h ha) fun D σ H ⟨m, e, Z, R, o⟩ => ⟨m, e, Z, R, OutMS.bM o fun w Z1 m1 H1 v x1 R1 r1 o1 => by
  cases hp : parts w with
  | none => simp only [hp] at o1; exact (show False from o1).elim
  | some l =>
    simp only [hp] at o1
    cases hs : setsE is l e with
    | none => simp only [hs] at o1; exact (show False from o1).elim
    | some e' =>
      simp only [hs] at o1
      obtain ⟨p, vs, rfl, h1, h2⟩ := parts_rep hp r1
      exact ⟨p, vs, rfl, h1, by rw [← h2.length]; exact setsE_len hs, gNames_run hs R1 h2 fun σ' R' => o1 m1 σ' H1 .refl R'⟩⟩
def msDrop (f : MM) : MMS := fun e Z => xS (f e Z) fun _ Z1 => .nx e Z1
theorem dms_expr (ha : DM C x fa) (hs : swapsWith x none pos.line C.X.env = pure false := by rfl) : DMS C (.Expr x pos) (msDrop fa) := ps_imp (ps_expr ha hs) fun D σ H ⟨m, e, Z, R, o⟩ => ⟨m, e, Z, R, OutMS.bM o fun w Z1 m1 H1 v x1 R1 r1 o1 => o1 m1 σ H1 .refl R1⟩
def msIf (c : MMT) (a b : MMS) : MMS := fun e Z => xS (c e Z) fun t Z1 => if t = true then a e Z1 else b e Z1
theorem dms_if {tc : MMT} {sa sb : List Stmt} (hc : DMT C c tc) (ha : DMSs C sa f1) (hb : DMSs C sb f2) : DMS C (.If c sa sb pos) (msIf tc f1 f2) := ps_imp (ps_if hc ha hb) fun D σ H ⟨m, e, Z, R, o⟩ => ⟨m, e, Z, R, OutMS.bT o fun t Z1 m1 H1 x1 R1 o1 => by
  cases t with
  | true => exact ⟨m1, e, Z1, R1, o1⟩
  | false => exact ⟨m1, e, Z1, R1, o1⟩⟩
def msRet (f : MM) : MMS := fun e Z => xS (f e Z) fun w Z1 => .rt w Z1
theorem dms_ret (ha : DM C x fa) : DMS C (.Return (some x) pos) (msRet fa) := ps_imp (ps_ret ha) fun D σ H ⟨m, e, Z, R, o⟩ => ⟨m, e, Z, R, OutMS.bM o fun w Z1 m1 H1 v x1 R1 r1 o1 => o1 m1 σ e H1 v .refl R1 r1⟩
end
end DL
set_option Elab.async false
set_option linter.all false
set_option maxRecDepth 100000
namespace DL
open PySem PySem.Spec PyProof.Rows L2
section
variable {C : Ctx} {m m1 : List Addr} {H H1 H' : Hp} {σ σ1 : L2.St} {e e1 : MEn} {Z Z1 : MSt} {x a b c o tg : Expr} {fa fb fo fv : MM} {fs fk : MMA} {pos : Pos} {st : Stmt} {rest sts : List Stmt} {f1 f2 : MMS} {DD : Ends}
def WalkM (C : Ctx) (m : List Addr) (H1 : Hp) (J : It) (ws : List MV) : Prop :=
  ∃ (G : Hp → Prop) (Y : Nat → Hp → V → Hp → Prop), Walk J ws.length G Y ∧ (∀ m' H, MExt C.io m H1 m' H → G H) ∧
    ∀ i m' H x H', i < ws.length → MExt C.io m H1 m' H → Y i H x H' → Same H H' ∧ ∃ w, ws[i]? = some w ∧ C.RM m' H' w x
def OutMI (C : Ctx) (m : List Addr) (H : Hp) (σ : L2.St) (e : MEn) (r : RM (List MV)) (R : It → Hp → Prop) : Prop := match r with
  | .ok ws Z => ∀ m' H1 J, MExt C.io m H m' H1 → MR C m' H1 σ e Z → WalkM C m' H1 J ws → R J H1
  | .err x Z => OutX C m H σ e x Z
  | .stuck => False
def tMI (C : Ctx) (f : MMA) : TI := fun σ H R => ∃ m e Z, MR C m H σ e Z ∧ OutMI C m H σ e (f e Z) R
def DMI (C : Ctx) (tg iter : Expr) (f : MMA) : Prop := PI C.X tg iter (tMI C f)
theorem OutMI.step {r : RM (List MV)} {P : It → Hp → Prop} (h : OutMI C m H σ e r P) (y : MExt C.io m H m1 H1) (R : MR C m1 H1 σ e Z1) : OutMI C m1 H1 σ e r P := by
  cases r with
  | ok w Z => exact fun m' H' J x2 => h m' H' J (y.tr R x2)
  | err x Z => exact OutX.step h y R
  | stuck => exact h
theorem OutMI.bM {r : RM MV} {k : MV → MSt → RM (List MV)} {P : It → Hp → Prop} {Q1 : VK} (h : OutMI C m H σ e (r.bind k) P) (hq : ∀ w Z1 m1 H1 v, MExt C.io m H m1 H1 → MR C m1 H1 σ e Z1 → C.RM m1 H1 w v → OutMI C m1 H1 σ e (k w Z1) P → Q1 v H1) : OutM C m H σ e r Q1 :=
  OutM.bind (O := fun m H r => OutMI C m H σ e r P) (fun _ _ h => h) (fun _ _ h => h) (fun h x R => h.step x R) h hq
theorem walkM_range {lo : Int} {n : Nat} : WalkM C m H (Itr lo n) ((rangeD lo n).map .d) := by
  refine ⟨_, _, by unfold rangeD; rw [List.length_map, List.length_map, List.length_range]; exact walk_range (lo := lo) (n := n), fun _ _ _ => trivial, fun i m' H' x H'' hi k y => ?_⟩
  obtain ⟨rfl, rfl⟩ := y
  unfold rangeD at hi ⊢
  rw [List.length_map, List.length_map, List.length_range] at hi
  exact ⟨fun _ _ z => z, .d (.int (lo + (i : Int))), by rw [List.getElem?_map, List.getElem?_map, List.getElem?_range hi]; rfl, .ofD (.int_ _)⟩
def miRange (f : MM) : MMA := fun e Z => (f e Z).bind fun w Z1 => match w with
  | .d (.int n) => if -100000 ≤ n ∧ n ≤ 100000 then .ok ((rangeD 0 n.toNat).map .d) Z1 else .stuck
  | _ => .stuck
theorem dmi_range {p : Pos} (hg : Gl C.X "range") (hm : C.X.mg "range" = none) (ha : DM C a fa) (hs : starEach [a] C.X.env = [(false, eval a C.X.env)] := by rfl) : DMI C tg (.Call (.Name "range" p) [a] [] pos) (miRange fa) :=
  pi_imp (pi_range1 hg hm (pa_cons ha pa_nil hs) hs) fun σ H P ⟨m, e, Z, R, o⟩ => ⟨m, e, Z, R, OutMI.bM o fun w Z1 m1 H1 v x1 R1 r1 o1 => by
    cases w <;> first | exact (show False from o1).elim | skip
    rename_i d
    cases d <;> first | exact (show False from o1).elim | skip
    rename_i n
    by_cases hn : -100000 ≤ n ∧ n ≤ 100000
    · simp only [hn, and_self, if_true] at o1
      exact ⟨n, by rw [r1.toD.toInt], by omega, by omega, o1 m1 H1 _ .refl R1 walkM_range⟩
    · simp only [hn, if_false] at o1; exact (show False from o1).elim⟩
def forM (i : Nat) (fb : MMS) : List MV → MMS
  | [] => fun e Z => .nx e Z
  | w :: ws => fun e Z => match fb (e.set i (.v w)) Z with
    | .nx e2 Z2 => forM i fb ws e2 Z2
    | .ct e2 Z2 => forM i fb ws e2 Z2
    | .bk e2 Z2 => .nx e2 Z2
    | .rt y Z2 => .rt y Z2
    | .err x Z2 => .err x Z2
    | .stuck => .stuck
def msFor (fi : MMA) (i : Nat) (fb : MMS) : MMS := fun e Z => xS (fi e Z) fun ws Z1 => forM i fb ws e Z1
theorem OutMS.bI {r : RM (List MV)} {k : List MV → MSt → RS} {P : It → Hp → Prop} (h : OutMS C m H (xS r k) DD) (hq : ∀ ws Z1 m1 H1 J, MExt C.io m H m1 H1 → MR C m1 H1 σ e Z1 → WalkM C m1 H1 J ws → OutMS C m1 H1 (k ws Z1) DD → P J H1) : OutMI C m H σ e r P := by
  cases r with
  | ok w Y => exact fun m' H' J x R r => hq w Y m' H' J x R r (OutMS.step h x R)
  | err x Y => exact fun m' H' c dd x R r => h m' σ e H' c dd x R r
  | stuck => exact h
theorem MR.same (R : MR C m H σ e Z) (s : Same H H') : MExt C.io m H m H' ∧ MR C m H' σ e Z := by
  have y : MExt C.io m H m H' := ⟨⟨[], by simp⟩, fun a o z _ _ => s a o z, fun a z => .inl z⟩
  refine ⟨y, R.len, R.slots y, R.st.mono (R.keep y) fun a h => ?_, fun a h => ⟨?_, (R.io a h).2⟩, R.tb.ext s, fun r c h => ?_, R.po, fun a h => R.h0 a ?_, R.ih⟩
  · obtain ⟨q, e⟩ := R.mx a h
    rw [e]; exact s _ _ e
  · obtain ⟨⟨q, e, mo⟩, _⟩ := R.io a h
    exact ⟨q, s _ _ e, mo⟩
  · obtain ⟨h1, h2, h3, h4, h5⟩ := R.rg r c h
    exact ⟨h1, h2, h3, h4, h5.same s⟩
  · cases q : H a with
    | none => rfl
    | some ob => rw [s _ _ q] at h; cases h
theorem dms_for {iter : Expr} {body : List Stmt} {fi : MMA} {i : Nat} {fb : MMS} (h : ∀ {wi : TI} {tb : TS}, PI C.X tg iter wi → PSs C.X body tb → PS C.X st (tFor wi (gName i) tb)) (hi : DMI C tg iter fi) (hb : DMSs C body fb) : DMS C st (msFor fi i fb) :=
  ps_imp (h hi hb) fun D' σ H ⟨m, e, Z, R, o⟩ => ⟨m, e, Z, R, OutMS.bI o fun ws Z1 m1 H1 J x1 R1 w o1 => by
    obtain ⟨GG, Y, wk, hG, hY⟩ := w
    refine for_it wk (fun j σ' H' => ∃ m' e' Z', MExt C.io m1 H1 m' H' ∧ MR C m' H' σ' e' Z' ∧ OutMS C m' H' (forM i fb (ws.drop j) e' Z') D') ⟨m1, e, Z1, .refl, R1, by simpa using o1⟩ (fun j σ' H' _ ⟨m', e', Z', y', _, _⟩ => hG m' H' y') ?_ ?_
    · rintro j x σ' H' H'' hj ⟨m', e', Z', y', R', o'⟩ hy
      obtain ⟨same, w, hw, rw_⟩ := hY j m' H' x H'' hj y' hy
      rw [List.drop_eq_getElem_cons hj] at o'
      have ew : ws[j] = w := by rw [List.getElem?_eq_getElem hj] at hw; exact Option.some.inj hw
      rw [ew] at o'
      obtain ⟨y2, R2⟩ := R'.same same
      have o2 := OutMS.step o' y2 R2
      refine ⟨m', e'.set i (.v w), Z', R2.set rw_, ?_⟩
      unfold forM at o2
      cases hb' : fb (e'.set i (.v w)) Z' with
      | nx e3 Z3 => rw [hb'] at o2; exact fun m3 σ3 H3 y3 R3 => ⟨m3, e3, Z3, (y'.tr R' y2).tr R2 y3, R3, OutMS.step o2 y3 R3⟩
      | ct e3 Z3 => rw [hb'] at o2; exact fun m3 σ3 H3 y3 R3 => ⟨m3, e3, Z3, (y'.tr R' y2).tr R2 y3, R3, OutMS.step o2 y3 R3⟩
      | bk e3 Z3 => rw [hb'] at o2; exact fun m3 σ3 H3 y3 R3 => o2 m3 σ3 H3 y3 R3
      | rt w3 Z3 => rw [hb'] at o2; exact fun m3 σ3 e3 H3 v y3 R3 r => o2 m3 σ3 e3 H3 v y3 R3 r
      | err z Z3 => rw [hb'] at o2; exact fun m3 σ3 e3 H3 c dd y3 R3 r => o2 m3 σ3 e3 H3 c dd y3 R3 r
      | stuck => rw [hb'] at o2; exact o2.elim
    · rintro σ' H' ⟨m', e', Z', y', R', o'⟩
      rw [List.drop_length] at o'
      exact o' m' σ' H' .refl R'⟩
end
end DL
set_option Elab.async false
set_option linter.all false
set_option maxRecDepth 100000
namespace DL
open PySem PySem.Spec PyProof.Rows L2
section
variable {P : Program} {w : World} {K : PySem.W.Frag} {mg : Str → Option Value} {base : Heap} {cm : Str → Option Addr} {tb : List (Addr × Str)}
end
section
variable {C : Ctx} {m m1 m' : List Addr} {H H1 H' : Hp} {σ : L2.St} {e : MEn} {Z Z1 : MSt} {a y obj : Expr} {fa fo : MM} {fs fk : MMA} {pos p apos : Pos}
variable {nx xn cls mn nm qual : Str} {es : List Expr} {kws : List Keyword} {k n : Nat} {f Ca : Addr} {fd : FuncData} {ps ks : List Str} {st : Stmt} {dvs msv : List V} {kd : List (Str × V)} {dd md : List D} {src : List Src} {mm : List MV → MSt → RM MV}
end
end DL
set_option Elab.async false
set_option linter.all false
set_option maxRecDepth 100000
set_option maxHeartbeats 2000000
namespace DL
open PySem PySem.Spec PySem.W PyProof.Rows L2
section
variable {C : Ctx} {fb : MM} {oc : Exc → Res D} {m m' : List Addr} {H H' : Hp} {σ : L2.St} {e : MEn} {Z : MSt}
end
end DL
set_option Elab.async false
set_option linter.all false
set_option maxRecDepth 100000
namespace DL
open PySem PySem.Spec PyProof.Rows L2
theorem CalD.cal {P : Program} {w : World} {K : PySem.W.Frag} {mg : Str → Option Value} {base : Heap} {k : Nat} {x : Str} {st : Stmt} {dvs : List V} {kws : List (Str × V)} {f : Addr} {ps : List Str} {sp : Sp} (h : CalD P w K mg base k x st dvs kws f ps sp)
    (hb : ∀ fd, FunD K x x (defArgs st) (defBody st) (defScope st) dvs kws f fd → L2.Binds K fd ps []) : Cal P w K mg base k f ps sp := by
  obtain ⟨fd, F1, F2⟩ := h
  exact ⟨fd, F1, hb fd F2⟩
theorem CalD.mk' {P : Program} {w : World} {K : PySem.W.Frag} {mg : Str → Option Value} {base : Heap} {k : Nat} {x : Str} {st : Stmt} {dvs : List V} {kws : List (Str × V)} {f : Addr} {ps : List Str} {sp : Sp} {fd : FuncData} (h : FnOk P w K mg base (L2N.CX P w) k f fd ps sp)
    (F : FunD K x x (defArgs st) (defBody st) (defScope st) dvs kws f fd) : CalD P w K mg base k x st dvs kws f ps sp := ⟨fd, h, F⟩
theorem ex_at {l : List (PySem.W.Frag → Bool)} {K : PySem.W.Frag} (h : (l.all fun f => f K) = true) (i : Nat) {f : PySem.W.Frag → Bool} (e : l[i]? = some f := by rfl) : f K = true := List.all_eq_true.mp h f (List.mem_of_getElem? e)
theorem rep_tupB {K : PySem.W.Frag} {cm : Str → Option Addr} {tb : List (Addr × Str)} {x : Str} {vs : List He.Dv} {l : List D} (h : He.tupB K x vs = true) (hl : ∀ H A, RepL ⟨K, cm, tb⟩ H A l (vs.map (He.Dv.v K))) : ∀ H A, Rep ⟨K, cm, tb⟩ H A (.tup l) (.ref (He.ga K x)) :=
  fun H A => .tup_ (He.tupB_ok h H) (hl H A)
theorem roomU {k : Nat} {A : Around} (h : Room k A) : A.units + 65 < cLine := by have := h.un; omega
theorem takes0N {X : Cx} : L2N.Takes X (fun _ _ _ _ => False) := fun _ _ x => by
  obtain ⟨_, _, _, _, _, _, _, _, _, _, _, _, _, _, _, _, _, w⟩ := x
theorem rmd {j k : Nat} {A : Around} (r : Room k A) (h : j ≤ k := by decide) : Room j A := r.mono h
theorem rmo {j k : Nat} {A : Around} (r : Room k A) (h : j ≤ k := by omega) : Room j A := r.mono h
theorem ps_sT {X : Cx} {i : Nat} {x : Str} {e : Expr} {te : TE} {pos pos' : Pos} (hN : X.N.Nodup) (he : PE X e te) (hi : X.N[i]? = some x := by rfl) (hx : Loc X.env.scope x := by first | exact Or.inl rfl | exact Or.inr rfl) (hs : swapsWith e (some (.Name x pos')) pos.line X.env = pure false := by rfl) (hf : X.fn x = true ∨ X.env.scope.names.lookup x = some .local := by first | exact .inl rfl | exact .inr rfl | assumption) :
    PS X (.Assign [.Name x pos'] e pos) (tAsg te (gName i)) := ps_set hN hi hx he hs hf
theorem scM {N P : List Str} {sc : Scope} (h1 : sc.kind = .function := by rfl) (h2 : sc.isCoroutine = false := by rfl) (h3 : sc.isGenerator = false := by rfl) (h4 : N.Nodup := by decide +kernel) (h5 : N.take P.length = P := by rfl) (h6 : ∀ x ∈ P, sc.names.lookup x = some .local ∨ sc.names.lookup x = some .cell := by decide +kernel) (h7 : ∀ y ∈ sc.names, y.2 ≠ .free := by decide +kernel) : FnScope N P sc := ⟨h1, h2, h3, h4, h5, h6, h7⟩
abbrev TF (K : PySem.W.Frag) (nm q : Str) (st : Stmt) (d : He.DefD) (f : Addr) : Prop := ∃ fd, FunD K nm q (defArgs st) (defBody st) (defScope st) (d.dvs K) (d.kws K) f fd
structure TD (K : PySem.W.Frag) (mg : Str → Option Value) (x : Str) (st : Stmt) (d : He.DefD) : Prop where
  g : mg x = some (.ref (He.ga K x))
  k : PySem.W.keepIn K (.ref (He.ga K x)) = true
  F : TF K x x st d (He.ga K x)
theorem td {fa : List He.Fa} {fn : List He.DefD} {K : PySem.W.Frag} {mg : Str → Option Value} {h : Heap} (KX : K.In h) (G : h.Ns mainGlobals mg) (c : He.SaysD fa fn K) (i : Nat) {x : Str} {st : Stmt} {dl : List He.Dv} {kl : List (Str × He.Dv)} (h1 : fa[i]? = some (.glo x)) (h2 : fn[i]? = some ⟨(x, none), x, x, defArgs st, defBody st, defScope st, dl, kl⟩) :
    TD K mg x st ⟨(x, none), x, x, defArgs st, defBody st, defScope st, dl, kl⟩ :=
  ⟨He.glo_ok KX G (c.fact i h1), (c.def_ i h2).elim fun _ F => F.kp, c.def_ i h2⟩
theorem pre3 {N ps : List Str} {sc : Scope} {nm : Str} {g : Addr} {cdv : Value} {A : Around} {s : Shared} {k : Nat} (P : Program) (w : World) (K : PySem.W.Frag) (mg : Str → Option Value) (base : Heap) (outer : List PySem.Env) (H : Hp) (E : XK) (_ : FnScope N ps sc) (hr : Room k (A.deeper (envOfC nm sc s.heap.objs.size g cdv))) :
    (A.deeper (envOfC nm sc s.heap.objs.size g cdv)).units + 65 < cLine ∧ L2N.Takes (cxOf (L2N.CX P w) P w K mg base N nm sc g cdv A outer s H E) (fun c dd _ H' => E c dd H') ∧ PassesOwn (model P w) (A.deeper (envOfC nm sc s.heap.objs.size g cdv)) (envOfC nm sc s.heap.objs.size g cdv) (cxOf (L2N.CX P w) P w K mg base N nm sc g cdv A outer s H E).xe :=
  ⟨roomU hr, L2N.takes_of rfl rfl rfl rfl, passes_of rfl⟩
end DL
set_option Elab.async false
set_option linter.all false
set_option maxRecDepth 100000
namespace DL
open PySem PySem.Spec PyProof.Rows L2
section
variable {P : Program} {w : World} {K : PySem.W.Frag} {mg : Str → Option Value} {base : Heap} {cm : Str → Option Addr} {tb : List (Addr × Str)}
def envLM (n : Nat) : MEn := .un :: .rng :: List.replicate (n - 2) .un
end
end DL
set_option Elab.async false
set_option linter.all false
set_option maxRecDepth 100000
namespace DL
open PySem PySem.Spec PyProof PyProof.Rows PySem.W PySem.F
section
variable {prog : Program} {w : World} {A : Around} {E : Value → Shared → Prop} {s : Shared} {K : Frag} {x C L f : Addr} {h₀ : Heap} {m : Str → Option Value} {ox : Obj} {od : Option Obj}
end
end DL
namespace DL
open PySem PySem.Spec PyProof.Rows L2
section
variable {C : Ctx} {a : Expr} {fa : ME} {p pos : Pos} {cls nm qual : Str} {Ca f : Addr} {k : Nat} {st : Stmt} {dvs : List V} {kd : List (Str × V)} {ps : List Str} {mm : List D → Res D}
variable {b x : Expr} {ga gb : MM} {fs : MMA}
end
end DL
set_option Elab.async false
set_option linter.all false
set_option maxRecDepth 100000
namespace DL
open PySem PySem.Spec PyProof.Rows L2
section
variable {C : Ctx} {obj : Expr} {kws : List Keyword} {ks ps : List Str} {dvs msv : List V} {dd md : List D} {src : List Src} {k : Nat} {kd : List (Str × V)} {st : Stmt} {f Ca : Addr} {nm qual cls mn : Str} {apos pos : Pos} {mm : List MV → MSt → RM MV} {fo : MM} {fk : MMA}
end
end DL
set_option Elab.async false
set_option linter.all false
set_option maxRecDepth 100000
namespace DL
open PySem PySem.Spec PyProof.Rows L2
section
variable {C : Ctx} {x a : Expr} {es : List Expr} {fs : MMA} {p pos : Pos} {xn : Str} {f : Addr} {k : Nat} {ps : List Str} {mm : List D → Res D} {m : List Addr} {H : Hp} {σ : L2.St} {e : MEn} {Z : MSt}
variable {b : Expr} {rest : List Expr} {fa fb : MM}
end
section
variable {C : Ctx} {st : Stmt} {xe : Bool} {i : Nat} {f : MA}
def LcOk (C : Ctx) (st : Stmt) (i : Nat) (f : MA) : Prop := ∃ t, PS C.X st (tAsg t (gName i)) ∧ ∀ σ H Q, tDF C f σ H Q → t σ H Q
theorem dms_lcL (hx : xe = true → C.rg = none) (h : ∀ H0 A, LcOk (C.at_ H0 A) st i f) : DMS C st (msAsg i (mOfF (fLift xe f))) :=
  ⟨fun pins s σ H D I ⟨m, e, Z, R, o⟩ => by
    have q : tM C (mOfF (fLift xe f)) σ H (fun v H1 => gName i v σ H1 D.nx) := ⟨m, e, Z, R, OutMS.bM o fun w Z1 m1 H1 v x1 R1 r1 o1 => o1 m1 _ H1 .refl (R1.set r1)⟩
    obtain ⟨A, q1⟩ := lift_imp hx (ofF_imp q)
    obtain ⟨t, h1, h2⟩ := h H A
    exact h1.run pins s σ H D I (h2 σ H _ q1)⟩
end
section
variable {C : Ctx} {elt iter tg : Expr} {ifs : List Expr} {scope : Scope} {ts vs : List Nat} {own : List (Str × Nat)} {fi : MA} {tf : TgF} {ft : MT} {fe : ME} {i : Nat} {y : Str} {py spos pos : Pos}
theorem lcAsg (hN : C.X.N.Nodup) (ok : BlkOk C.X.N C.X.env.scope scope own) (hi : DI C tg iter fi) (hsub : ∀ t ∈ ts, t ∈ vs)
    (hg : ∀ s H Ca cl fp, DG (C.blk s H scope (compEnvC scope cl Ca C.X.env) fp) tg ts tf) (ht : ∀ s H Ca cl fp, DTs (C.blk s H scope (compEnvC scope cl Ca C.X.env) fp) ifs ft)
    (he : ∀ s H Ca cl fp, DE (C.blk s H scope (compEnvC scope cl Ca C.X.env) fp) elt fe) (hv : vs = own.map (·.2) := by rfl) (hc : C.X.calm = true := by rfl) (hy : C.X.N[i]? = some y := by rfl) (hyl : C.X.env.scope.names.lookup y = some .local := by rfl)
    (hsw : swapsWith (.ListComp elt [⟨tg, iter, ifs, 0⟩] scope pos) (some (.Name y py)) spos.line C.X.env = pure true := by exact sw_true rfl rfl rfl (by decide +kernel)) (hs : ∀ x, foldedSetIterable iter C.X.env x = pure x := by intro _; rfl) :
    LcOk C (.Assign [.Name y py] (.ListComp elt [⟨tg, iter, ifs, 0⟩] scope pos) spos) i (aLc vs fi tf ft fe) := by
  subst hv
  exact lc_reads (fun hi' hg' ht' he' r => ⟨_, ps_setLc hc hN hy hyl hsw hi' ok hg' ht' he' hs, r⟩) hi hsub hg ht he
end
end DL
set_option Elab.async false
set_option linter.all false
set_option maxRecDepth 100000
namespace DL
open PySem PySem.Spec PyProof.Rows L2
section
variable {C : Ctx} {m : List Addr} {H H' : Hp} {σ : L2.St} {e : MEn} {Z : MSt}
theorem MR.pushes (R : MR C m H σ e Z) {ps : List Addr} {ws : List MO} {Z1 : MSt} (x : MExt C.io m H m H') (R1 : MR C m H' σ e Z1) (hs : Z1.st = Z.st) (hl : ps.length = ws.length) (nd : ps.Nodup) (n : ∀ p, p ∈ ps → H p = none) (ho : ∀ (k : Nat) p w, ps[k]? = some p → ws[k]? = some w → ObjM C.g C.B (m ++ ps) H' p w) (hx : ∀ a, a ∈ m → H' a = H a) :
    MExt C.io m H (m ++ ps) H' ∧ MR C (m ++ ps) H' σ e { Z1 with st := Z1.st ++ ws } := by
  have y : MExt C.io m H (m ++ ps) H' := ⟨⟨ps, rfl⟩, x.kp, fun a h => (List.mem_append.mp h).imp id fun h => n a h⟩
  refine ⟨y, R.len, R.slots y, ⟨by rw [List.length_append, List.length_append, R1.st.len, hl], ?_, fun j a o h1 h2 => ?_⟩, fun a h => ⟨(R1.io a h).1, fun z => ?_⟩, R1.tb, fun r c h => ?_, R.po, R1.h0, R.ih⟩
  · rw [List.nodup_append]
    exact ⟨R.st.nd, nd, fun a ha b hb z => (R.fresh (n b hb)).2 (z ▸ ha)⟩
  · by_cases hj : j < m.length
    · rw [List.getElem?_append_left hj] at h1
      have hj2 : j < Z1.st.length := by rw [← R1.st.len]; exact hj
      rw [List.getElem?_append_left hj2, hs] at h2
      have q := R.st.ob j a o h1 h2
      have ea := hx a (List.mem_of_getElem? h1)
      cases o with
      | lst l => obtain ⟨vs, q1, q2⟩ := q; exact ⟨vs, by rw [ea]; exact q1, q2.mono (R.keep y)⟩
      | ins c ns l => obtain ⟨Ca, dx, vs, q0, q1, q2, q3⟩ := q; exact ⟨Ca, dx, vs, q0, by rw [ea]; exact q1, q2, q3.mono (R.keep y)⟩
    · rw [List.getElem?_append_right (by omega)] at h1
      rw [List.getElem?_append_right (by rw [← R1.st.len]; omega), ← R1.st.len] at h2
      exact ho _ a o h1 h2
  · rcases List.mem_append.mp z with z | z
    · exact (R.io a h).2 z
    · exact (R.fresh (n a z)).1.2 h
  · obtain ⟨h1, h2, h3, h4, h5⟩ := R1.rg r c h
    refine ⟨h1, h2, fun z => ?_, h4, h5⟩
    rcases List.mem_append.mp z with z | z
    · exact h3 z
    · exact h4 (R.h0 c (n c z))
end
def putV : List Bool → List D → Nat → Option (List MV × List MO)
  | [], [], _ => some ([], [])
  | true :: m, .lst l :: ds, n => (putV m ds (n + 1)).map fun r => (.o n :: r.1, .lst (l.map .d) :: r.2)
  | false :: m, d :: ds, n => (putV m ds n).map fun r => (.d d :: r.1, r.2)
  | _, _, _ => none
theorem putV_ok {g : G} {B : Addr → Prop} {M : List Addr} {H : Hp} {ds : List D} {us : List V} {ps : List (Option Addr)} (pr : PartR g (fun a => B a ∧ a ∉ M) H ds us ps) : ∀ {n : Nat} {mk : List Bool} {vs : List MV} {ws : List MO}, ps.map Option.isSome = mk → putV mk ds n = some (vs, ws) → (∀ k p, (fr ps)[k]? = some p → M[n + k]? = some p) →
    (fr ps).length = ws.length ∧ (∀ (k : Nat) p w, (fr ps)[k]? = some p → ws[k]? = some w → ObjM g B M H p w) ∧ RepMs g B M H vs us := by
  induction pr with
  | nil =>
    intro n mk vs ws hm hp hM
    cases hm
    cases hp
    exact ⟨rfl, fun k p w h _ => (by simp [fr] at h), .nil⟩
  | lst hp r h ih =>
    rename_i l p us0 ds us ps
    intro n mk vs ws hm hv hM
    cases hm
    rw [List.map_cons, Option.isSome_some, putV] at hv
    cases hq : putV (ps.map Option.isSome) ds (n + 1) with
    | none => rw [hq] at hv; cases hv
    | some r0 =>
      obtain ⟨vs0, ws0⟩ := r0
      rw [hq] at hv
      cases hv
      obtain ⟨e1, e2, e3⟩ := ih rfl hq fun k q hk => by
        have := hM (k + 1) q (by simpa [fr] using hk)
        rw [show n + 1 + k = n + (k + 1) by omega]
        exact this
      have h0 : M[n]? = some p := hM 0 p (by simp [fr])
      refine ⟨by simp [fr] at e1 ⊢; exact e1, fun k q w hk hw => ?_, .cons (.ofO h0) e3⟩
      cases k with
      | zero =>
        simp [fr] at hk hw
        subst hk
        subst hw
        exact ⟨us0, hp, RepMs.ofL r⟩
      | succ k => exact e2 k q w (by simpa [fr] using hk) (by simpa using hw)
  | tr r h ih =>
    rename_i d u ds us ps
    intro n mk vs ws hm hv hM
    cases hm
    rw [List.map_cons] at hv
    cases hq : putV (ps.map Option.isSome) ds n with
    | none => rw [show (none : Option Addr).isSome = false from rfl, putV, hq] at hv; cases hv
    | some r0 =>
      obtain ⟨vs0, ws0⟩ := r0
      rw [show (none : Option Addr).isSome = false from rfl, putV, hq] at hv
      cases hv
      obtain ⟨e1, e2, e3⟩ := ih rfl hq hM
      exact ⟨e1, e2, .cons (.ofD r) e3⟩
def mLiftT (mk : List Bool) (xe : Bool) (f : MA) : MM := fun e Z => match f (lowE e) Z.g with
  | .ok (ds, g) => match putV mk ds Z.st.length with
    | some (vs, ws) => .ok (.t vs) { Z with st := Z.st ++ ws, g := g }
    | none => .stuck
  | .err x => if xe = true then .err x Z else .stuck
  | .stuck => .stuck
section
variable {C : Ctx} {x : Expr} {xe : Bool} {mk : List Bool}
theorem dm_liftT {f : MA} (h : ∀ H0 A, DTu mk (C.at_ H0 A) x f) (hx : xe = true → C.rg = none) : DM C x (mLiftT mk xe f) := ⟨fun pins s σ H Q I ⟨m, e, Z, R, o⟩ => (h H (C.Bm m)).run pins s σ H Q I ⟨fun _ => none, fun _ => none, lowE e, Z.g, R.sr, by
  unfold mLiftT at o
  unfold OutTu
  cases hf : f (lowE e) Z.g with
  | ok p =>
    obtain ⟨ds, g⟩ := p
    rw [hf] at o
    intro H' t us ps y hq hm nd n S r
    obtain ⟨y1, R1⟩ := R.back y S
    cases hv : putV mk ds Z.st.length with
    | none => simp only [hv] at o; exact (show False from o).elim
    | some q =>
      obtain ⟨vs, ws⟩ := q
      simp only [hv] at o
      have r' : PartR C.g (fun a => C.B a ∧ a ∉ m ++ fr ps) H' ds us ps := r.mono (.same fun _ _ z => z) (fun a q _ => ⟨(R.al q.1).1, fun z => (List.mem_append.mp z).elim (R.al q.1).2 q.2⟩) fun _ _ _ z => z
      obtain ⟨e1, e2, e3⟩ := putV_ok r' hm hv fun k p hk => by
        rw [← R.st.len, List.getElem?_append_right (Nat.le_add_right _ _), Nat.add_sub_cancel_left]
        exact hk
      obtain ⟨y2, R2⟩ := R.pushes y1 R1 rfl e1 nd n e2 (R.backS y)
      refine o _ H' _ y2 R2 ?_
      show RepM C.g C.B (m ++ fr ps) H' (.t vs) (.ref t)
      rw [RepM]
      exact ⟨t, us, rfl, hq, e3⟩
  | err z =>
    rw [hf] at o
    cases xe with
    | false => exact (show False from o).elim
    | true =>
      intro H' c dd y ⟨g', S⟩ r
      obtain ⟨y1, R1⟩ := R.back y S
      exact o m H' c dd y1 (R1.gN (hx rfl) Z.g) (r.up fun a q => R.al q)
  | stuck => rw [hf] at o; exact o.elim⟩⟩
end
end DL
set_option Elab.async false
set_option linter.all false
set_option maxRecDepth 100000
namespace DL
open PySem PySem.Spec PyProof.Rows L2
section
variable {C : Ctx} {tg : Expr} {st : Stmt}
end
section
variable {C : Ctx} {m : List Addr} {st : Stmt} {i : Nat} {xe : Bool}
end
def upS : Slot → MSl
  | .sh d => .v (.d d)
  | .rng => .rng
  | _ => .un
def msLiftS (B : List Nat) (f : MS) : MMS := fun e Z => match f (lowE e) Z.g with
  | .ok (.nx e' g') => .nx ((borrow B e').map upS) { Z with g := g' }
  | _ => .stuck
section
variable {C : Ctx} {m : List Addr}
theorem MR.ofSR {H H' : Hp} {σ σ' : L2.St} {e : MEn} {Z : MSt} {own : Own} {F : Hp} {e' : En} {g' : Rng} (B : List Nat) (R : MR C m H σ e Z) (S0 : SR (C.at_ H (C.Bm m)) own F H' σ' e' g') : MExt C.io m H m H' ∧ MR C m H' σ' ((borrow B e').map upS) { Z with g := g' } := by
  have S := S0.borrow B
  have x : ExtI (C.at_ H (C.Bm m)) H H' := fun a o h n => S.h0 a o h n
  have y : MExt C.io m H m H' := ⟨⟨[], by simp⟩, fun a o h _ n => x a o h fun hi => n ((io_at R.po).mp hi), fun a h => .inl h⟩
  refine ⟨y, by rw [List.length_map]; exact S.len, fun i s hs => ?_, R.st.mono (R.keep y) (R.backS x), fun a h => ⟨S.io a ((io_at R.po).mpr h), (R.io a h).2⟩, S.tb, fun r c h => ?_, R.po, fun a h => R.h0 a ?_, R.ih⟩
  · rw [List.getElem?_map] at hs
    cases hz : (borrow B e')[i]? with
    | none => rw [hz] at hs; cases hs
    | some z =>
      rw [hz] at hs
      cases hs
      have q := S.sl i z hz
      cases z <;> first | trivial | skip
      · obtain ⟨v, q1, q2⟩ := q
        exact ⟨v, q1, .ofD (q2.mono (.same fun _ _ z => z) fun a q _ => q.1.elim id R.fresh)⟩
  · obtain ⟨h1, h2, h3, h4, h5⟩ := R.rg r c h
    obtain ⟨_, _, _, k4⟩ := S.rg r c h
    exact ⟨h1, h2, h3, h4, k4⟩
  · refine y.back (fun a h => ?_) (fun a h => ?_) h
    · obtain ⟨o, q, _⟩ := S.io a ((io_at R.po).mpr h)
      exact ⟨o, q⟩
    · rw [R.backS x a h]; exact R.mx a h
theorem dmss_lift2 {st1 st2 : Stmt} {rest : List Stmt} {f1 f2 : MS} {k : MMS} (B : List Nat) (h1 : ∀ H0 A, DS (C.at_ H0 A) st1 f1) (h2 : ∀ H0 A, DS (C.at_ H0 A) st2 f2) (hr : DMSs C rest k) : DMSs C (st1 :: st2 :: rest) (msSeq (msLiftS B (sSeq f1 f2)) k) :=
  ⟨fun pins s σ H D I ⟨m, e, Z, R, o⟩ => by
    refine (pss_cons (h1 H (C.Bm m)) (pss_cons (h2 H (C.Bm m)) hr)).run pins s σ H D I ⟨fun _ => none, fun _ => none, lowE e, Z.g, R.sr, ?_⟩
    unfold msSeq msLiftS sSeq at o
    unfold OutS
    cases hf : f1 (lowE e) Z.g with
    | ok u =>
      rw [hf] at o
      cases u with
      | nx e1 g1 =>
        intro own1 σ1 H1 S1
        refine ⟨own1, _, e1, g1, S1, ?_⟩
        unfold OutS
        simp only [Res.bind] at o
        cases hf2 : f2 e1 g1 with
        | ok u2 =>
          rw [hf2] at o
          cases u2 with
          | nx e2 g2 =>
            intro own2 σ2 H2 S2
            obtain ⟨y, R2⟩ := R.ofSR B S2
            exact ⟨m, _, _, R2, OutMS.step o y R2⟩
          | bk _ _ => exact o.elim
          | ct _ _ => exact o.elim
          | rt _ _ => exact o.elim
        | err x => rw [hf2] at o; exact o.elim
        | stuck => rw [hf2] at o; exact o.elim
      | bk _ _ => exact o.elim
      | ct _ _ => exact o.elim
      | rt _ _ => exact o.elim
    | err x => rw [hf] at o; exact o.elim
    | stuck => rw [hf] at o; exact o.elim⟩
end
section
variable {P : Program} {w : World} {K : PySem.W.Frag} {mg : Str → Option Value} {base : Heap} {cm : Str → Option Addr} {tb : List (Addr × Str)}
theorem law_runM {st : Stmt} {f : Addr} {fd : FuncData} {N : List Str} {k : Nat} {s0 : Stmt} {rest : List Stmt} {dvs : List V} {kws : List (Str × V)} (F : FunD K "law" "law" (defArgs st) (defBody st) (defScope st) dvs kws f fd) (S : FnScope N ["_law_script"] (defScope st)) (b : MMS) (hN : 2 ≤ N.length) (hst : defBody st = s0 :: rest)
    {A : Around} (first : ∀ (cdv : Value) (s : Shared) (H : Hp) (E : XK), Room k (A.deeper (envOfC "law" (defScope st) s.heap.objs.size f cdv)) → PS (cxOf (L2N.CX P w) P w K mg base N "law" (defScope st) f cdv A [] s H E) s0 (tAsg (tCall (spSrc K) [] E0 (tCons (tVar 0) tNil)) (gName 1)))
    (body : ∀ (cdv : Value) (s : Shared) (H : Hp) (E : XK) (H1 : Hp) (r c : Addr), fd.code = cdv → Room k (A.deeper (envOfC "law" (defScope st) s.heap.objs.size f cdv)) →
      DMSs { X := cxOf (L2N.CX P w) P w K mg base N "law" (defScope st) f cdv A [] s H E, cm := cm, tb := tb, W := fun c dd _ H' => E c dd H', H0 := H1, A := fun _ => False, rg := some (r, c) } rest b)
    (hb : ∀ g : Rng, g.Ok → ∃ Z', b (envLM N.length) ⟨g, []⟩ = .rt (.d (.bl true)) Z') :
    ∀ {s : Shared} {H : Hp} {us : List Value} {vs : List V} {Q : VK} {E : XK}, Room (k + 1) A → Env0 P w K mg base A [] s H → BindsTo s fd ⟨us, []⟩ ((["_law_script"] : List Str).zip us) → Vals vs us → spLaw K tb vs H Q E → codeAny (model P w) A (.call (.ref f) ⟨us, []⟩) (CR (L2N.CX P w) [] P w H s Q E) s := by
  intro s H us vs Q E hroom e0 hbi rv h
  obtain ⟨a, ns, rfl, tt, hS, hl, hq⟩ := h
  refine run_at F S rfl hroom e0 hbi rv fun cdv hcd hr => ?_
  rw [hst]
  let CC : Hp → Addr → Addr → Ctx := fun H1 r c => { X := cxOf (L2N.CX P w) P w K mg base N "law" (defScope st) f cdv A [] s H E, cm := cm, tb := tb, W := fun c dd _ H' => E c dd H', H0 := H1, A := fun _ => False, rg := some (r, c) }
  have hrest : PSs (cxOf (L2N.CX P w) P w K mg base N "law" (defScope st) f cdv A [] s H E) rest (fun D σ H' => ∃ H1 r c, tMS (CC H1 r c) b D σ H') :=
    ⟨fun pins sh σ H' D I ⟨H1, r, c, z⟩ => (body cdv s H E H1 r c hcd hr).run pins sh σ H' D I z⟩
  refine ⟨_, pss_cons (first cdv s H E hr) hrest, ?_⟩
  have h0 : (L2.start N [.ref a])[0]? = some (some (.ref a)) := start_get rfl
  refine ⟨.ref a, h0, a, ns, by simp, hS, hl, fun H' r c g same nr nc R => ⟨H', r, c, ?_⟩⟩
  obtain ⟨Z', hg'⟩ := hb g R.ok
  have tt' : Tabs tb H' := tt.ext same
  have io : ∀ x, (CC H' r c).io x → x = r ∨ ∃ p ∈ tb, p.1 = x := fun x h => Ctx.io_rg rfl rfl h
  have ntL : ∀ {x : Addr} {xs : List V}, H' x = some (.lst xs) → ∀ p ∈ tb, p.1 ≠ x := fun {x xs} h p hp z => by
    obtain ⟨ps, h1, _⟩ := tt' p hp
    rw [z, h] at h1; cases h1
  have at0 : ∀ x, (CC H' r c).io x → ∃ o, H' x = some o ∧ MutO o := fun x h => by
    rcases io x h with rfl | ⟨p, hp, rfl⟩
    · exact ⟨_, R.at_, .inl ⟨_, rfl⟩⟩
    · exact tt'.at_ hp
  have lenS : (L2.start N [V.ref a]).length = N.length := by unfold L2.start; simp; omega
  have R0 : MR (CC H' r c) [] H' ((L2.start N [.ref a]).set 1 (some (.ref r))) (envLM N.length) ⟨g, []⟩ := by
    refine ⟨?_, fun i s hs => ?_, ⟨rfl, List.nodup_nil, fun k a o h => by simp at h⟩, fun a h => ⟨at0 a h, by simp⟩, tt', fun r' c' z => ?_, rfl, fun a h => h, fun a h => ?_⟩
    · rw [List.length_set, lenS]; unfold envLM; simp; omega
    · unfold envLM at hs
      match i with
      | 0 => cases hs; trivial
      | 1 => cases hs; exact ⟨r, c, rfl, by rw [List.getElem?_set_self (by rw [lenS]; omega)]⟩
      | i + 2 =>
        simp only [List.getElem?_cons_succ, List.getElem?_replicate] at hs
        split at hs
        · cases hs; trivial
        · cases hs
    · cases z
      exact ⟨.inl (.inl ⟨c, rfl⟩), fun hi => (io c hi).elim R.ne fun ⟨p, hp, z⟩ => ntL R.ce p hp z, by simp, (by show H' c ≠ none; rw [R.ce]; exact fun z => nomatch z), R⟩
    · obtain ⟨o, e, _⟩ := at0 a h
      show H' a ≠ none
      rw [e]; exact fun z => nomatch z
  refine ⟨[], envLM N.length, ⟨g, []⟩, R0, ?_⟩
  show OutMS (CC H' r c) _ _ (b (envLM N.length) ⟨g, []⟩) _
  rw [hg']
  intro m' σ' e' H2 v x S' rv
  rw [rv.toD.toBl]
  exact hq H2
end
end DL
set_option Elab.async false
set_option linter.all false
set_option maxRecDepth 100000
namespace DL
open PySem L2
@[simp] theorem bind_ok {α β : Type} (a : α) (k : α → Res β) : (Res.ok a).bind k = k a := rfl
@[simp] theorem bind_err {α β : Type} (x : Exc) (k : α → Res β) : (Res.err x : Res α).bind k = .err x := rfl
@[simp] theorem bind_stuck {α β : Type} (k : α → Res β) : (Res.stuck : Res α).bind k = .stuck := rfl
@[simp] theorem pureG_ok' {α : Type} (a : α) (g : Rng) : pureG (.ok a) g = .ok (a, g) := rfl
@[simp] theorem pureG_err {α : Type} (x : Exc) (g : Rng) : pureG (.err x : Res α) g = .err x := rfl
@[simp] theorem pureG_stuck {α : Type} (g : Rng) : pureG (.stuck : Res α) g = .stuck := rfl
@[irreducible] def WG {α : Type} (r : Res (α × Rng)) (Q : α → Rng → Prop) : Prop := match r with
  | .ok p => Q p.1 p.2
  | _ => False
@[irreducible] def WV {α : Type} (r : Res α) (Q : α → Prop) : Prop := match r with
  | .ok p => Q p
  | _ => False
section
variable {α β : Type} {Q : α → Rng → Prop} {Q' : α → Prop}
@[simp] theorem WG_ok (p : α × Rng) : WG (.ok p) Q = Q p.1 p.2 := by unfold WG; rfl
@[simp] theorem WG_err (x : Exc) : WG (.err x) Q = False := by unfold WG; rfl
@[simp] theorem WG_stuck : WG .stuck Q = False := by unfold WG; rfl
@[simp] theorem WV_ok (p : α) : WV (.ok p) Q' = Q' p := by unfold WV; rfl
@[simp] theorem WV_err (x : Exc) : WV (.err x) Q' = False := by unfold WV; rfl
@[simp] theorem WV_stuck : WV .stuck Q' = False := by unfold WV; rfl
@[simp] theorem WG_bind (r : Res (β × Rng)) (k : β × Rng → Res (α × Rng)) : WG (r.bind k) Q = WG r (fun b g => WG (k (b, g)) Q) := by cases r <;> simp only [bind_ok, bind_err, bind_stuck, WG_ok, WG_err, WG_stuck, WV_ok, WV_err, WV_stuck, pureG_ok', pureG_err, pureG_stuck]
@[simp] theorem WG_bindV (r : Res (List D)) (k : List D → Res (α × Rng)) : WG (r.bind k) Q = WV r (fun b => WG (k b) Q) := by cases r <;> simp only [bind_ok, bind_err, bind_stuck, WG_ok, WG_err, WG_stuck, WV_ok, WV_err, WV_stuck, pureG_ok', pureG_err, pureG_stuck]
@[simp] theorem WV_bind (r : Res (β × Rng)) (k : β × Rng → Res α) : WV (r.bind k) Q' = WG r (fun b g => WV (k (b, g)) Q') := by cases r <;> simp only [bind_ok, bind_err, bind_stuck, WG_ok, WG_err, WG_stuck, WV_ok, WV_err, WV_stuck, pureG_ok', pureG_err, pureG_stuck]
@[simp] theorem WV_bindO (r : Res Out) (k : Out → Res α) : WV (r.bind k) Q' = WV r (fun b => WV (k b) Q') := by cases r <;> simp only [bind_ok, bind_err, bind_stuck, WG_ok, WG_err, WG_stuck, WV_ok, WV_err, WV_stuck, pureG_ok', pureG_err, pureG_stuck]
@[simp] theorem WG_bindO (r : Res Out) (k : Out → Res (α × Rng)) : WG (r.bind k) Q = WV r (fun b => WG (k b) Q) := by cases r <;> simp only [bind_ok, bind_err, bind_stuck, WG_ok, WG_err, WG_stuck, WV_ok, WV_err, WV_stuck, pureG_ok', pureG_err, pureG_stuck]
@[simp] theorem WG_pureG (r : Res α) (g : Rng) : WG (pureG r g) Q = WV r (fun a => Q a g) := by cases r <;> simp only [bind_ok, bind_err, bind_stuck, WG_ok, WG_err, WG_stuck, WV_ok, WV_err, WV_stuck, pureG_ok', pureG_err, pureG_stuck]
@[simp] theorem WG_ite (c : Prop) [Decidable c] (a b : Res (α × Rng)) : WG (if c then a else b) Q = if c then WG a Q else WG b Q := by split <;> rfl
@[simp] theorem WV_ite (c : Prop) [Decidable c] (a b : Res α) : WV (if c then a else b) Q' = if c then WV a Q' else WV b Q' := by split <;> rfl
theorem WG.mono {r : Res (α × Rng)} {Q Q2 : α → Rng → Prop} (h : WG r Q) (i : ∀ a g, Q a g → Q2 a g) : WG r Q2 := by
  unfold WG at h ⊢
  cases r with
  | ok p => exact i _ _ h
  | err x => exact h
  | stuck => exact h
theorem WV.mono {r : Res α} {Q Q2 : α → Prop} (h : WV r Q) (i : ∀ a, Q a → Q2 a) : WV r Q2 := by
  unfold WV at h ⊢
  cases r with
  | ok p => exact i _ h
  | err x => exact h
  | stuck => exact h
theorem WG.get {r : Res (α × Rng)} {Q : α → Rng → Prop} (h : WG r Q) : ∃ a g, r = .ok (a, g) ∧ Q a g := by
  unfold WG at h
  cases r with
  | ok p => exact ⟨p.1, p.2, rfl, h⟩
  | err x => exact h.elim
  | stuck => exact h.elim
theorem WV.get {r : Res α} {Q : α → Prop} (h : WV r Q) : ∃ a, r = .ok a ∧ Q a := by
  unfold WV at h
  cases r with
  | ok p => exact ⟨p, rfl, h⟩
  | err x => exact h.elim
  | stuck => exact h.elim
end
section
variable (e : En) (g : Rng)
@[simp] theorem eVar_ (i : Nat) : eVar i e g = match e[i]? with | some (.sh d) => .ok (d, g) | _ => .stuck := rfl
@[simp] theorem eC_ (d : D) : eC d e g = .ok (d, g) := rfl
@[simp] theorem eOp_ (f : D → D → Res D) (a b : ME) : eOp f a b e g = (a e g).bind fun p => (b e p.2).bind fun q => pureG (f p.1 q.1) q.2 := rfl
@[simp] theorem eUn_ (f : D → Res D) (a : ME) : eUn f a e g = (a e g).bind fun p => pureG (f p.1) p.2 := rfl
def toB (p : D × Rng) : Res (Bool × Rng) := match p.1 with
  | .bl b => .ok (b, p.2)
  | _ => .stuck
@[simp] theorem toB_ (b : Bool) : toB (.bl b, g) = .ok (b, g) := rfl
@[simp] theorem eTest_ (a : ME) : eTest a e g = (a e g).bind toB := rfl
@[simp] theorem aNil_ : aNil e g = .ok ([], g) := rfl
@[simp] theorem aCons_ (a : ME) (b : MA) : aCons a b e g = (a e g).bind fun p => (b e p.2).bind fun q => .ok (p.1 :: q.1, q.2) := rfl
@[simp] theorem eCall_ (f : List D → Res D) (a : MA) : eCall f a e g = (a e g).bind fun p => pureG (f p.1) p.2 := rfl
@[simp] theorem tAndM_ (a b : MT) : tAndM a b e g = (a e g).bind fun p => if p.1 = true then b e p.2 else .ok (false, p.2) := rfl
@[simp] theorem tOrM_ (a b : MT) : tOrM a b e g = (a e g).bind fun p => if p.1 = true then .ok (true, p.2) else b e p.2 := rfl
@[simp] theorem tNotM_ (a : MT) : tNotM a e g = (a e g).bind fun p => .ok (!p.1, p.2) := rfl
@[simp] theorem eIf_ (c : MT) (a b : ME) : eIf c a b e g = (c e g).bind fun p => if p.1 = true then a e p.2 else b e p.2 := rfl
def andK (b : ME) (e : En) (p : D × Rng) : Res (D × Rng) := match p.1 with
  | .bl true => b e p.2
  | .bl false => .ok (.bl false, p.2)
  | _ => .stuck
@[simp] theorem andK_ (b : ME) (v : Bool) : andK b e (.bl v, g) = if v = true then b e g else .ok (.bl false, g) := by cases v <;> rfl
@[simp] theorem eAnd_ (a b : ME) : eAnd a b e g = (a e g).bind (andK b e) := rfl
@[simp] theorem eTup_ (a : MA) : eTup a e g = (a e g).bind fun p => if p.1.length ≤ 1000 then .ok (.tup p.1, p.2) else .stuck := rfl
@[simp] theorem aLst_ (a : MA) : aLst a e g = (a e g).bind fun p => if p.1.length ≤ 1000 then .ok p else .stuck := rfl
@[simp] theorem eOfL_ (a : MA) : eOfL a e g = (a e g).bind fun p => .ok (.lst p.1, p.2) := rfl
@[simp] theorem eIsi_ (t : Ty) (a : ME) : eIsi t a e g = (a e g).bind fun p => pureG (dIsinst t [p.1]) p.2 := rfl
@[simp] theorem dAdd_ii (i j : Int) : dAdd (.int i) (.int j) = .ok (.int (i + j)) := rfl
@[simp] theorem dSub_ii (i j : Int) : dSub (.int i) (.int j) = .ok (.int (i - j)) := rfl
@[simp] theorem dLt_ii (i j : Int) : dLtI (.int i) (.int j) = .ok (.bl (decide (i < j))) := rfl
@[simp] theorem dGt_ii (i j : Int) : dGt (.int i) (.int j) = .ok (.bl (decide (j < i))) := rfl
@[simp] theorem dGe_ii (i j : Int) : dGe (.int i) (.int j) = .ok (.bl (decide (j ≤ i))) := rfl
@[simp] theorem dNeg_i (i : Int) : dNeg (.int i) = .ok (.int (-i)) := rfl
theorem dMul_ii (i j : Int) : dMul (.int i) (.int j) = if CMulW i j then .ok (.int (i * j)) else .stuck := rfl
theorem dFDiv_ii (i j : Int) : dFDiv (.int i) (.int j) = if CDivW i j then .ok (.int (i / j)) else .stuck := rfl
theorem dMod_ii (i j : Int) : dMod (.int i) (.int j) = if 0 < j then .ok (.int (i % j)) else .stuck := rfl
theorem dPow_ii (i j : Int) : dPow (.int i) (.int j) = if CPow i j then .ok (.int (i ^ j.toNat)) else .stuck := rfl
@[simp] theorem py_int (i : Int) : (D.int i).py = .int i := by rw [D.py]
@[simp] theorem py_bl (i : Bool) : (D.bl i).py = .bool i := by rw [D.py]
@[simp] theorem py_str (i : Str) : (D.str i).py = .str i := by rw [D.py]
@[simp] theorem py_non : (D.non).py = .none := by rw [D.py]
@[simp] theorem py_tup (l : List D) : (D.tup l).py = .tuple (D.pyL l) := by rw [D.py]
@[simp] theorem py_lst (l : List D) : (D.lst l).py = .list (D.pyL l) := by rw [D.py]
@[simp] theorem pyL_nil : D.pyL [] = [] := by rw [D.pyL]
@[simp] theorem pyL_cons (d : D) (l : List D) : D.pyL (d :: l) = d.py :: D.pyL l := by rw [D.pyL]
@[simp] theorem sh_int (i : Int) : SeqAt.shaped (.int i) = true := by simp [SeqAt.shaped, PyData.canLay0, PyData.depth]
@[simp] theorem sh_bool (i : Bool) : SeqAt.shaped (.bool i) = true := by simp [SeqAt.shaped, PyData.canLay0, PyData.depth]
@[simp] theorem sh_none : SeqAt.shaped .none = true := by simp [SeqAt.shaped, PyData.canLay0, PyData.depth]
@[simp] theorem dEq_ii (i j : Int) : dEq (.int i) (.int j) = .ok (.bl (decide (i = j))) := by simp [dEq, PyData.eqv, Bool.beq_eq_decide_eq]
@[simp] theorem dNe_ii (i j : Int) : dNe (.int i) (.int j) = .ok (.bl (!decide (i = j))) := by simp [dNe, PyData.eqv, Bool.beq_eq_decide_eq]
@[simp] theorem dEq_bb (i j : Bool) : dEq (.bl i) (.bl j) = .ok (.bl (i == j)) := by simp [dEq, PyData.eqv]
@[simp] theorem dNe_bb (i j : Bool) : dNe (.bl i) (.bl j) = .ok (.bl (!(i == j))) := by simp [dNe, PyData.eqv]
@[simp] theorem dIsN_ (x : D) : dIsN x .non = .ok (.bl x.isNon) := rfl
@[simp] theorem dAbs_ (i : Int) : dAbs [.int i] = .ok (.int (if i < 0 then -i else i)) := rfl
@[simp] theorem dLen_lst (l : List D) : dLen [.lst l] = .ok (.int l.length) := rfl
@[simp] theorem dLen_tup (l : List D) : dLen [.tup l] = .ok (.int l.length) := rfl
@[simp] theorem isi_int (t : Ty) (i : Int) : dIsinst t [.int i] = .ok (.bl (decide (t = .tInt))) := rfl
@[simp] theorem isi_bl (t : Ty) (i : Bool) : dIsinst t [.bl i] = .ok (.bl (t = .tInt || t = .tBool)) := rfl
@[simp] theorem isi_str (t : Ty) (i : Str) : dIsinst t [.str i] = .ok (.bl (decide (t = .tStr))) := rfl
@[simp] theorem isi_tup (t : Ty) (i : List D) : dIsinst t [.tup i] = .ok (.bl (decide (t = .tTup))) := rfl
@[simp] theorem isi_lst (t : Ty) (i : List D) : dIsinst t [.lst i] = .ok (.bl (decide (t = .tList))) := rfl
@[simp] theorem isi_non (t : Ty) : dIsinst t [.non] = .ok (.bl false) := rfl
@[simp] theorem dIx_lst (l : List D) (i : Int) : dIx (.lst l) (.int i) = match atI l i with | some d => .ok d | none => .stuck := rfl
@[simp] theorem dIx_tup (l : List D) (i : Int) : dIx (.tup l) (.int i) = match atI l i with | some d => .ok d | none => .stuck := rfl
@[simp] theorem bools_nil : bools [] = some [] := rfl
@[simp] theorem bools_cons (b : Bool) (l : List D) : bools (.bl b :: l) = (bools l).map (b :: ·) := rfl
@[simp] theorem dAll_ (l : List D) : dAll [.lst l] = match bools l with | some bs => .ok (.bl (bs.all id)) | none => .stuck := rfl
def seqK (b : MS) (o : Out) : Res Out := match o with
  | .nx e' g' => b e' g'
  | o => .ok o
@[simp] theorem seqK_nx (b : MS) : seqK b (.nx e g) = b e g := rfl
@[simp] theorem seqK_rt (b : MS) (d : D) : seqK b (.rt d g) = .ok (.rt d g) := rfl
@[simp] theorem seqK_bk (b : MS) : seqK b (.bk e g) = .ok (.bk e g) := rfl
@[simp] theorem seqK_ct (b : MS) : seqK b (.ct e g) = .ok (.ct e g) := rfl
@[simp] theorem sSeq_ (a b : MS) : sSeq a b e g = (a e g).bind (seqK b) := rfl
@[simp] theorem sNx_ : sNx e g = .ok (.nx e g) := rfl
@[simp] theorem sAsg_ (i : Nat) (f : ME) : sAsg i f e g = (f e g).bind fun p => .ok (.nx (e.set i (.sh p.1)) p.2) := rfl
@[simp] theorem sAsgF_ (i : Nat) (f : MA) : sAsgF i f e g = (f e g).bind fun p => .ok (.nx (e.set i (.ow p.1)) p.2) := rfl
@[simp] theorem sRet_nil (f : ME) : sRet [] f e g = (f e g).bind fun p => .ok (.rt p.1 p.2) := by unfold sRet; rw [borrow_nil]
theorem sRet_ (B : List Nat) (f : ME) : sRet B f e g = (f (borrow B e) g).bind fun p => .ok (.rt p.1 p.2) := rfl
@[simp] theorem sDrop_ (f : ME) : sDrop f e g = (f e g).bind fun p => .ok (.nx e p.2) := rfl
@[simp] theorem sIf_ (c : MT) (a b : MS) : sIf c a b e g = (c e g).bind fun p => if p.1 = true then a e p.2 else b e p.2 := rfl
def parK (i j : Nat) (e : En) (p : List D × Rng) : Res Out := match p.1 with
  | [d, d'] => .ok (.nx ((e.set i (.sh d)).set j (.sh d')) p.2)
  | _ => .stuck
@[simp] theorem parK_ (i j : Nat) (d d' : D) : parK i j e ([d, d'], g) = .ok (.nx ((e.set i (.sh d)).set j (.sh d')) g) := rfl
@[simp] theorem sPar_ (i j : Nat) (f : MA) : sPar i j f e g = (f e g).bind (parK i j e) := rfl
@[simp] theorem sFor_ (fi : MA) (tf : TgF) (fb : MS) : sFor fi tf fb e g = (fi e g).bind fun p => forL tf fb p.1 e p.2 := rfl
@[simp] theorem gNm_ (i : Nat) (d : D) : gNm i d e = some (e.set i (.sh d)) := rfl
@[simp] theorem gTp_ (n : Nat) (u : TgFs) (l : List D) : gTp n u (.tup l) e = if l.length = n then u l e else none := rfl
@[simp] theorem gsNil_ : gsNil [] e = some e := rfl
@[simp] theorem gsCons_ (t : TgF) (u : TgFs) (d : D) (r : List D) : gsCons t u (d :: r) e = (t d e).bind fun e' => u r e' := rfl
def iRK (p : List D × Rng) : Res (List D × Rng) := match p.1 with
  | [.int n] => if -100000 ≤ n ∧ n ≤ 100000 then .ok (rangeD 0 n.toNat, p.2) else .stuck
  | [.int m, .int n] => if -100000 ≤ m ∧ m ≤ 100000 ∧ -100000 ≤ n ∧ n ≤ 100000 then .ok (rangeD m (n - m).toNat, p.2) else .stuck
  | _ => .stuck
@[simp] theorem iRK_1 (n : Int) : iRK ([.int n], g) = if -100000 ≤ n ∧ n ≤ 100000 then .ok (rangeD 0 n.toNat, g) else .stuck := rfl
@[simp] theorem iRK_2 (m n : Int) : iRK ([.int m, .int n], g) = if -100000 ≤ m ∧ m ≤ 100000 ∧ -100000 ≤ n ∧ n ≤ 100000 then .ok (rangeD m (n - m).toNat, g) else .stuck := rfl
@[simp] theorem iRange_ (f : MA) : iRange f e g = (f e g).bind iRK := rfl
@[simp] theorem iSeqD_ (f : ME) : iSeqD f e g = (f e g).bind fun p => (dItems p.1).bind fun l => .ok (l, p.2) := rfl
@[simp] theorem iZipD_ (f : MA) : iZipD f e g = (f e g).bind fun p => (dZip p.1).bind fun l => .ok (l, p.2) := rfl
@[simp] theorem iEnumD_ (f : MA) : iEnumD f e g = (f e g).bind fun p => (dEnum p.1).bind fun l => .ok (l, p.2) := rfl
@[simp] theorem dItems_lst (l : List D) : dItems (.lst l) = .ok l := rfl
@[simp] theorem dItems_tup (l : List D) : dItems (.tup l) = .ok l := rfl
@[simp] theorem dItems_str (z : Str) : dItems (.str z) = .ok (strD z) := rfl
@[simp] theorem dZip_ll (l m : List D) : dZip [.lst l, .lst m] = .ok ((l.zip m).map fun q => .tup [q.1, q.2]) := rfl
@[simp] theorem dZip_tt (l m : List D) : dZip [.tup l, .tup m] = .ok ((l.zip m).map fun q => .tup [q.1, q.2]) := rfl
@[simp] theorem mTrue_ : mTrue e g = .ok (true, g) := rfl
@[simp] theorem resD_rt (d : D) : resD (.ok (.rt d g)) = .ok d := rfl
@[simp] theorem resD_nx : resD (.ok (.nx e g)) = .ok .non := rfl
@[simp] theorem resG_rt (d : D) : resG (.ok (.rt d g)) = .ok (d, g) := rfl
end
def outFor (I : En → Rng → Prop) (Q : Out → Prop) : Out → Prop
  | .nx e g => I e g
  | .ct e g => I e g
  | .bk e g => Q (.nx e g)
  | .rt d g => Q (.rt d g)
end DL
namespace DL
open PySem L2
@[simp] theorem isNon_int (i : Int) : (D.int i).isNon = false := rfl
@[simp] theorem isNon_bl (i : Bool) : (D.bl i).isNon = false := rfl
@[simp] theorem isNon_str (i : Str) : (D.str i).isNon = false := rfl
@[simp] theorem isNon_non : (D.non).isNon = true := rfl
@[simp] theorem isNon_tup (i : List D) : (D.tup i).isNon = false := rfl
@[simp] theorem isNon_lst (i : List D) : (D.lst i).isNon = false := rfl
@[simp] theorem sh_str (i : Str) : SeqAt.shaped (.str i) = PyData.strOk i := by simp [SeqAt.shaped, PyData.canLay0, PyData.depth]
theorem dEq_ss {i j : Str} (h : PyData.strOk i = true) (h' : PyData.strOk j = true) : dEq (.str i) (.str j) = .ok (.bl (i == j)) := by simp [dEq, PyData.eqv, h, h']
theorem dNe_ss {i j : Str} (h : PyData.strOk i = true) (h' : PyData.strOk j = true) : dNe (.str i) (.str j) = .ok (.bl (!(i == j))) := by simp [dNe, PyData.eqv, h, h']
@[simp] theorem noErr_ok {α : Type} (a : α) : noErr (.ok a) = .ok a := rfl
theorem aLc_ {vs : List Nat} {fi : MA} {tf : TgF} {ft : MT} {fe : ME} {e : En} {g : Rng} : aLc vs fi tf ft fe e g = (fi e g).bind fun p =>
  if (vs.all fun v => match e[v]? with | some s => !s.isOw | none => false) = true ∧ p.1.length ≤ 1000 then noErr (lcL tf ft fe p.1 (wipeE e vs) p.2) else .stuck := rfl
@[simp] theorem outFor_nx (I : En → Rng → Prop) (Q : Out → Prop) (e : En) (g : Rng) : outFor I Q (.nx e g) = I e g := rfl
@[simp] theorem outFor_ct (I : En → Rng → Prop) (Q : Out → Prop) (e : En) (g : Rng) : outFor I Q (.ct e g) = I e g := rfl
@[simp] theorem outFor_bk (I : En → Rng → Prop) (Q : Out → Prop) (e : En) (g : Rng) : outFor I Q (.bk e g) = Q (.nx e g) := rfl
@[simp] theorem outFor_rt (I : En → Rng → Prop) (Q : Out → Prop) (d : D) (g : Rng) : outFor I Q (.rt d g) = Q (.rt d g) := rfl
def rtI (P : D → Rng → Prop) : Out → Prop
  | .rt d g => P d g
  | _ => False
@[simp] theorem rtI_rt (P : D → Rng → Prop) (d : D) (g : Rng) : rtI P (.rt d g) = P d g := rfl
@[simp] theorem rtI_nx (P : D → Rng → Prop) (e : En) (g : Rng) : rtI P (.nx e g) = False := rfl
def intI (P : Int → Prop) : D → Prop
  | .int z => P z
  | _ => False
@[simp] theorem intI_int (P : Int → Prop) (z : Int) : intI P (.int z) = P z := rfl
theorem intI_get {P : Int → Prop} {d : D} (h : intI P d) : ∃ z, d = .int z ∧ P z := by
  cases d <;> first | exact h.elim | exact ⟨_, rfl, h⟩
theorem WG_resG {r : Res Out} {Q : D → Rng → Prop} (h : WV r (rtI Q)) : WG (resG r) Q := by
  obtain ⟨o, rfl, hq⟩ := h.get
  cases o with
  | rt d g => show WG (.ok (d, g)) Q; rw [WG_ok]; exact hq
  | nx e g => exact hq.elim
  | bk e g => exact hq.elim
  | ct e g => exact hq.elim
theorem cmulW_64 {i j : Int} (h1 : -18446744073709551616 < i) (h2 : i < 18446744073709551616) (h3 : -18446744073709551616 < j) (h4 : j < 18446744073709551616) : CMulW i j :=
  wide_mul (a := 64) (b := 64) (by show _ < 18446744073709551616; omega) (by show _ < 18446744073709551616; omega) (by decide) (by decide) (by decide)
theorem dMul_64 {i j : Int} (h1 : -18446744073709551616 < i) (h2 : i < 18446744073709551616) (h3 : -18446744073709551616 < j) (h4 : j < 18446744073709551616) : dMul (.int i) (.int j) = .ok (.int (i * j)) := by
  rw [dMul_ii, if_pos (cmulW_64 h1 h2 h3 h4)]
theorem cdivW_64 {i j : Int} (h : 0 < j) (h4 : j < 18446744073709551616) : CDivW i j := wide_div (b := 64) h (by show _ < 18446744073709551616; omega) (by decide) (by decide)
theorem dFDiv_64 {i j : Int} (h : 0 < j) (h4 : j < 18446744073709551616) : dFDiv (.int i) (.int j) = .ok (.int (i / j)) := by
  rw [dFDiv_ii, if_pos (cdivW_64 h h4)]
theorem dMod_pos {i j : Int} (h : 0 < j) : dMod (.int i) (.int j) = .ok (.int (i % j)) := by
  rw [dMod_ii, if_pos h]
@[simp] theorem dPow_18 : dPow (.int 10) (.int 18) = .ok (.int 1000000000000000000) := by rw [dPow_ii, if_pos (by decide)]; rfl
@[simp] theorem dPow_12 : dPow (.int 10) (.int 12) = .ok (.int 1000000000000) := by rw [dPow_ii, if_pos (by decide)]; rfl
theorem atI_some {α : Type} {l : List α} {i : Int} (h0 : 0 ≤ i) (h1 : i < l.length) : ∃ x, atI l i = some x := by
  unfold atI ixN
  rw [if_pos h0, if_pos h1]
  exact ⟨_, List.getElem?_eq_getElem (by omega)⟩
theorem sq_bound {s : Int} (h0 : 0 ≤ s) (h1 : s < 2147483563) : 0 ≤ s * s ∧ s * s < 4611685652037613969 := by
  constructor
  · exact Int.mul_nonneg h0 h0
  · have h2 : s * s ≤ s * 2147483562 := Int.mul_le_mul_of_nonneg_left (by omega) h0
    omega
end DL
namespace DL
end DL
namespace DL
theorem WG_runG {n k : Nat} {b : MS} {ds : List D} {g : Rng} {Q : D → Rng → Prop} (h : ds.length + 1 = k) (w : WV (b (envG n ds) g) (rtI Q)) : WG (runG n k b ds g) Q := by
  rw [runG, if_pos h]; exact WG_resG w
end DL
namespace DL
open PySem L2
def noE (m : List D → Rng → Res (D × Rng)) (p : List D × Rng) : Res (D × Rng) := match m p.1 p.2 with
  | .ok q => .ok q
  | _ => .stuck
@[simp] theorem WG_noE (m : List D → Rng → Res (D × Rng)) (p : List D × Rng) (Q : D → Rng → Prop) : WG (noE m p) Q = WG (m p.1 p.2) Q := by
  unfold noE
  cases m p.1 p.2 <;> simp only [WG_ok, WG_err, WG_stuck]
@[simp] theorem eCallG_ (i : Nat) (m : List D → Rng → Res (D × Rng)) (fs : MA) (e : En) (g : Rng) : eCallG i m fs e g = match e[i]? with
  | some .rng => (fs e g).bind (noE m)
  | _ => .stuck := rfl
end DL
namespace DL
open PySem PySem.Spec PyProof.Rows L2
theorem WG_noErr {r : Res (List D × Rng)} {Q : List D → Rng → Prop} (h : WG r Q) : WG (noErr r) Q := by
  obtain ⟨a, g, rfl, hq⟩ := h.get
  rw [noErr_ok, WG_ok]; exact hq
@[simp] theorem eCallK_ (n k : Nat) (f : List D → List D → Res D) (fs fk : MA) (e : En) (g : Rng) : eCallK n k f fs fk e g = (fs e g).bind fun p => (fk e p.2).bind fun q => if p.1.length = n ∧ q.1.length = k then pureG (f p.1 q.1) q.2 else .stuck := rfl
@[simp] theorem picks_nil {α : Type} (z : α) (us ws ds ms : List α) : picks z us ws ds ms [] = [] := rfl
@[simp] theorem picks_p {α : Type} (z : α) (us ws ds ms : List α) (i : Nat) (src : List Src) : picks z us ws ds ms (.p i :: src) = us.getD i z :: picks z us ws ds ms src := rfl
@[simp] theorem picks_k {α : Type} (z : α) (us ws ds ms : List α) (i : Nat) (src : List Src) : picks z us ws ds ms (.k i :: src) = ws.getD i z :: picks z us ws ds ms src := rfl
@[simp] theorem picks_d {α : Type} (z : α) (us ws ds ms : List α) (i : Nat) (src : List Src) : picks z us ws ds ms (.d i :: src) = ds.getD i z :: picks z us ws ds ms src := rfl
@[simp] theorem picks_m {α : Type} (z : α) (us ws ds ms : List α) (i : Nat) (src : List Src) : picks z us ws ds ms (.m i :: src) = ms.getD i z :: picks z us ws ds ms src := rfl
@[simp] theorem pNo_ (e : En) (g : Rng) : pNo e g = .ok (none, g) := rfl
def atP (p : D × Rng) : Res (Option Int × Rng) := match p.1 with
  | .int i => .ok (some i, p.2)
  | _ => .stuck
@[simp] theorem atP_ (i : Int) (g : Rng) : atP (.int i, g) = .ok (some i, g) := rfl
@[simp] theorem pAt_ (f : ME) (e : En) (g : Rng) : pAt f e g = (f e g).bind atP := rfl
@[simp] theorem eSl_ (a : ME) (l h : MP) (e : En) (g : Rng) : eSl a l h e g = (a e g).bind fun p => (l e p.2).bind fun q => (h e q.2).bind fun r => pureG (dSl p.1 q.1 r.1) r.2 := rfl
@[simp] theorem dSl_lst (l : List D) (lo hi : Option Int) : dSl (.lst l) lo hi = .ok (.lst (cutD l lo hi)) := rfl
@[simp] theorem dSl_tup (l : List D) (lo hi : Option Int) : dSl (.tup l) lo hi = .ok (.tup (cutD l lo hi)) := rfl
theorem dAdd_ll {i j : List D} (h : i.length + j.length ≤ 1000) : dAdd (.lst i) (.lst j) = .ok (.lst (i ++ j)) := if_pos h
theorem dMul_li {i : List D} {j : Int} (h : 0 ≤ j ∧ j ≤ 1000 ∧ i.length * j.toNat ≤ 1000) : dMul (.lst i) (.int j) = .ok (.lst (List.replicate j.toNat i).flatten) := if_pos h
@[simp] theorem dList_lst (l : List D) : dList [.lst l] = .ok (.lst l) := rfl
@[simp] theorem dList_tup (l : List D) : dList [.tup l] = .ok (.lst l) := rfl
@[simp] theorem dTupOf_lst (l : List D) : dTupOf [.lst l] = .ok (.tup l) := rfl
@[simp] theorem dTupOf_tup (l : List D) : dTupOf [.tup l] = .ok (.tup l) := rfl
@[simp] theorem length_rangeD (m : Int) (n : Nat) : (rangeD m n).length = n := by simp [rangeD]
end DL
namespace DL
open PySem L2
def asgGK (o : Option En) (g : Rng) : Res Out := match o with
  | some e => .ok (.nx e g)
  | none => .stuck
@[simp] theorem asgGK_some (e : En) (g : Rng) : asgGK (some e) g = .ok (.nx e g) := rfl
@[simp] theorem sAsgG_ (tf : TgF) (f : ME) (e : En) (g : Rng) : sAsgG tf f e g = (f e g).bind fun p => asgGK (tf p.1 e) p.2 := by
  unfold sAsgG
  congr 1
@[simp] theorem resD_err (x : Exc) : resD (.err x) = .err x := rfl
end DL
set_option Elab.async false
set_option linter.all false
set_option maxRecDepth 100000
set_option maxHeartbeats 1000000
namespace DL
open PySem L2
@[simp] theorem bindM_ok {α β : Type} (a : α) (Z : MSt) (k : α → MSt → RM β) : (RM.ok a Z).bind k = k a Z := rfl
@[simp] theorem bindM_err {α β : Type} (x : Exc) (Z : MSt) (k : α → MSt → RM β) : (RM.err x Z).bind k = .err x Z := rfl
@[simp] theorem bindM_stuck {α β : Type} (k : α → MSt → RM β) : (RM.stuck : RM α).bind k = .stuck := rfl
@[simp] theorem xS_ok {α : Type} (a : α) (Z : MSt) (k : α → MSt → RS) : xS (.ok a Z) k = k a Z := rfl
@[simp] theorem xS_err {α : Type} (x : Exc) (Z : MSt) (k : α → MSt → RS) : xS (.err x Z) k = .err x Z := rfl
@[simp] theorem xS_stuck {α : Type} (k : α → MSt → RS) : xS (.stuck : RM α) k = .stuck := rfl
@[simp] theorem MSt_eta (Z : MSt) : (⟨Z.g, Z.st⟩ : MSt) = Z := rfl
@[irreducible] def WM {α : Type} (r : RM α) (Q : α → MSt → Prop) : Prop := match r with
  | .ok a Z => Q a Z
  | _ => False
@[irreducible] def WS (r : RS) (Q : RS → Prop) : Prop := match r with
  | .stuck => False
  | .err _ _ => False
  | r => Q r
section
variable {α β : Type} {Q : α → MSt → Prop} {P : RS → Prop}
@[simp] theorem WM_ok (a : α) (Z : MSt) : WM (.ok a Z) Q = Q a Z := by unfold WM; rfl
@[simp] theorem WM_err (x : Exc) (Z : MSt) : WM (.err x Z) Q = False := by unfold WM; rfl
@[simp] theorem WM_stuck : WM .stuck Q = False := by unfold WM; rfl
@[simp] theorem WS_nx (e : MEn) (Z : MSt) : WS (.nx e Z) P = P (.nx e Z) := by unfold WS; rfl
@[simp] theorem WS_bk (e : MEn) (Z : MSt) : WS (.bk e Z) P = P (.bk e Z) := by unfold WS; rfl
@[simp] theorem WS_ct (e : MEn) (Z : MSt) : WS (.ct e Z) P = P (.ct e Z) := by unfold WS; rfl
@[simp] theorem WS_rt (w : MV) (Z : MSt) : WS (.rt w Z) P = P (.rt w Z) := by unfold WS; rfl
@[simp] theorem WS_err (x : Exc) (Z : MSt) : WS (.err x Z) P = False := by unfold WS; rfl
@[simp] theorem WS_stuck : WS .stuck P = False := by unfold WS; rfl
@[simp] theorem WM_bind (r : RM β) (k : β → MSt → RM α) : WM (r.bind k) Q = WM r (fun b Z => WM (k b Z) Q) := by cases r <;> simp only [bindM_ok, bindM_err, bindM_stuck, WM_ok, WM_err, WM_stuck]
@[simp] theorem WS_xS (r : RM β) (k : β → MSt → RS) : WS (xS r k) P = WM r (fun b Z => WS (k b Z) P) := by cases r <;> simp only [xS_ok, xS_err, xS_stuck, WM_ok, WM_err, WM_stuck, WS_err, WS_stuck]
@[simp] theorem WM_ite (c : Prop) [Decidable c] (a b : RM α) : WM (if c then a else b) Q = if c then WM a Q else WM b Q := by split <;> rfl
@[simp] theorem WS_ite (c : Prop) [Decidable c] (a b : RS) : WS (if c then a else b) P = if c then WS a P else WS b P := by split <;> rfl
theorem WM.mono {r : RM α} {Q Q2 : α → MSt → Prop} (h : WM r Q) (i : ∀ a Z, Q a Z → Q2 a Z) : WM r Q2 := by
  cases r <;> simp only [WM_ok, WM_err, WM_stuck] at h ⊢
  exact i _ _ h
theorem WS.mono {r : RS} {P P2 : RS → Prop} (h : WS r P) (i : ∀ o, P o → P2 o) : WS r P2 := by
  cases r <;> simp only [WS_nx, WS_bk, WS_ct, WS_rt, WS_err, WS_stuck] at h ⊢ <;> exact i _ h
theorem WM.get {r : RM α} {Q : α → MSt → Prop} (h : WM r Q) : ∃ a Z, r = .ok a Z ∧ Q a Z := by
  cases r <;> simp only [WM_ok, WM_err, WM_stuck] at h
  exact ⟨_, _, rfl, h⟩
theorem WS.get {r : RS} {P : RS → Prop} (h : WS r P) : ∃ o, r = o ∧ P o := by
  cases r <;> simp only [WS_nx, WS_bk, WS_ct, WS_rt, WS_err, WS_stuck] at h <;> exact ⟨_, rfl, h⟩
end
def lowS : MSl → Slot
  | .v (.d x) => .sh x
  | .rng => .rng
  | _ => .un
def lowBS (st : List MO) : MSl → Slot
  | .v x => match snapV 8 st x with
    | some d => .sh d
    | none => .un
  | .rng => .rng
  | .un => .un
@[simp] theorem lowE_nil : lowE [] = [] := rfl
@[simp] theorem lowE_cons (s : MSl) (e : MEn) : lowE (s :: e) = lowS s :: lowE e := by cases s <;> rfl
@[simp] theorem lowB_nil (st : List MO) : lowB st [] = [] := rfl
@[simp] theorem lowB_cons (st : List MO) (s : MSl) (e : MEn) : lowB st (s :: e) = lowBS st s :: lowB st e := by cases s <;> rfl
@[simp] theorem lowS_d (x : D) : lowS (.v (.d x)) = .sh x := rfl
@[simp] theorem lowS_o (k : Nat) : lowS (.v (.o k)) = .un := rfl
@[simp] theorem lowS_t (l : List MV) : lowS (.v (.t l)) = .un := rfl
@[simp] theorem lowS_l (l : List MV) : lowS (.v (.l l)) = .un := rfl
@[simp] theorem lowS_rng : lowS .rng = .rng := rfl
@[simp] theorem lowS_un : lowS .un = .un := rfl
@[simp] theorem snap_d (n : Nat) (st : List MO) (x : D) : snapV (n + 1) st (.d x) = some x := by simp [snapV]
theorem snapL_d (n : Nat) (st : List MO) : ∀ l : List D, snapL (n + 2) st (l.map .d) = some l
  | [] => by simp [snapL]
  | x :: l => by
    rw [List.map_cons, snapL, snap_d, snapL_d n st l]
@[simp] theorem lowBS_d (st : List MO) (x : D) : lowBS st (.v (.d x)) = .sh x := by
  show (match snapV 8 st (.d x) with | some d => Slot.sh d | none => .un) = _
  rw [snap_d]
@[simp] theorem lowBS_rng (st : List MO) : lowBS st .rng = .rng := rfl
@[simp] theorem lowBS_un (st : List MO) : lowBS st .un = .un := rfl
theorem lowBS_v {st : List MO} {x : MV} {d : D} (h : snapV 8 st x = some d) : lowBS st (.v x) = .sh d := by
  show (match snapV 8 st x with | some d => Slot.sh d | none => .un) = _
  rw [h]
theorem snap_lst {n k : Nat} {st : List MO} {l : List D} (h : st[k]? = some (.lst (l.map .d))) : snapV (n + 3) st (.o k) = some (.lst l) := by
  rw [snapV, h]
  simp only [snapL_d]
def liftM {α β : Type} (f : α → β) (xe : Bool) (Z : MSt) (r : Res (α × Rng)) : RM β := match r with
  | .ok (d, g) => .ok (f d) { Z with g := g }
  | .err x => if xe = true then .err x Z else .stuck
  | .stuck => .stuck
def borM {α β : Type} (f : α → β) (ok : α → Bool) (xe : Bool) (Z : MSt) (r : Res (α × Rng)) : RM β := match r with
  | .ok (d, g) => if ok d = true then .ok (f d) { Z with g := g } else .stuck
  | .err x => if xe = true ∧ D.noLstL x.l = true then .err x Z else .stuck
  | .stuck => .stuck
section
variable {α β : Type} {Q : β → MSt → Prop} {f : α → β} {ok : α → Bool} {xe : Bool} {Z : MSt}
@[simp] theorem liftM_ok (d : α) (g : Rng) : liftM f xe Z (.ok (d, g)) = .ok (f d) { Z with g := g } := rfl
@[simp] theorem liftM_err (x : Exc) : liftM f xe Z (.err x) = if xe = true then .err x Z else .stuck := rfl
@[simp] theorem borM_ok (d : α) (g : Rng) : borM f ok xe Z (.ok (d, g)) = if ok d = true then .ok (f d) { Z with g := g } else .stuck := rfl
@[simp] theorem borM_err (x : Exc) : borM f ok xe Z (.err x) = if xe = true ∧ D.noLstL x.l = true then .err x Z else .stuck := rfl
@[simp] theorem WM_liftM (r : Res (α × Rng)) : WM (liftM f xe Z r) Q = WG r (fun d g => Q (f d) { Z with g := g }) := by
  cases r with
  | ok p => rw [WG_ok]; show WM (.ok _ _) Q = _; rw [WM_ok]
  | err x => rw [WG_err]; show WM (if xe = true then _ else _) Q = _; split <;> simp
  | stuck => rw [WG_stuck]; show WM .stuck Q = _; rw [WM_stuck]
end
section
variable (e : MEn) (Z : MSt) (x : Bool)
@[simp] theorem mLift_ (f : ME) : mLift x f e Z = liftM MV.d x Z (f (lowE e) Z.g) := by unfold mLift liftM; cases f (lowE e) Z.g <;> rfl
@[simp] theorem tLift_ (f : MT) : tLift x f e Z = liftM id x Z (f (lowE e) Z.g) := by unfold tLift liftM; cases f (lowE e) Z.g <;> rfl
@[simp] theorem fLift_ (f : MA) : fLift x f e Z = liftM (List.map MV.d) x Z (f (lowE e) Z.g) := by unfold fLift liftM; cases f (lowE e) Z.g <;> rfl
@[simp] theorem mBor_ (f : ME) : mBor x f e Z = borM MV.d D.noLst x Z (f (lowB Z.st e) Z.g) := by unfold mBor borM; cases f (lowB Z.st e) Z.g <;> rfl
@[simp] theorem tBor_ (f : MT) : tBor x f e Z = borM id (fun _ => true) x Z (f (lowB Z.st e) Z.g) := by unfold tBor borM; cases f (lowB Z.st e) Z.g <;> simp
end
@[simp] theorem mVar_ (i : Nat) (e : MEn) (Z : MSt) : mVar i e Z = match e[i]? with | some (.v x) => .ok x Z | _ => .stuck := rfl
@[simp] theorem msNx_  (e : MEn) (Z : MSt) : msNx e Z = .nx e Z := rfl
@[simp] theorem msAsg_ (i : Nat) (f : MM) (e : MEn) (Z : MSt) : msAsg i f e Z = xS (f e Z) fun w Z1 => .nx (e.set i (.v w)) Z1 := rfl
@[simp] theorem msDrop_ (f : MM) (e : MEn) (Z : MSt) : msDrop f e Z = xS (f e Z) fun _ Z1 => .nx e Z1 := rfl
@[simp] theorem msIf_ (c : MMT) (a b : MMS) (e : MEn) (Z : MSt) : msIf c a b e Z = xS (c e Z) fun t Z1 => if t = true then a e Z1 else b e Z1 := rfl
@[simp] theorem msRet_ (f : MM) (e : MEn) (Z : MSt) : msRet f e Z = xS (f e Z) fun w Z1 => .rt w Z1 := rfl
theorem mApp_ (fo fv : MM) (e : MEn) (Z : MSt) : mApp fo fv e Z = (fo e Z).bind fun w Z1 => match w with | .o k => (match Z1.st[k]? with | some (.lst _) => (fv e Z1).bind fun y Z2 => (match Z2.st[k]? with | some (.lst l) => if l.length < 1000 then .ok (.d .non) { Z2 with st := Z2.st.set k (.lst (l ++ [y])) } else .stuck | _ => .stuck) | _ => .stuck) | _ => .stuck := rfl
@[simp] theorem setsE_nil (e : MEn) : setsE [] [] e = some e := rfl
@[simp] theorem setsE_cons (i : Nat) (is : List Nat) (w : MV) (l : List MV) (e : MEn) : setsE (i :: is) (w :: l) e = setsE is l (e.set i (.v w)) := rfl
@[simp] theorem parts_d (ds : List D) : parts (.d (.tup ds)) = some (ds.map .d) := rfl
@[simp] theorem parts_t (l : List MV) : parts (.t l) = some l := rfl
theorem asD_map : ∀ l : List D, asD (l.map .d) = some l
  | [] => rfl
  | x :: l => by rw [List.map_cons, asD, asD_map l]
@[simp] theorem mOfF_ (f : MMA) (e : MEn) (Z : MSt) : mOfF f e Z = (f e Z).bind fun l Z1 => match asD l with | some ds => .ok (.d (.lst ds)) Z1 | none => .ok (.l l) Z1 := rfl
def seqM (b : MMS) (o : RS) : RS := match o with
  | .nx e Z => b e Z
  | r => r
@[simp] theorem msSeq_ (a b : MMS) (e : MEn) (Z : MSt) : msSeq a b e Z = seqM b (a e Z) := by unfold msSeq seqM; cases a e Z <;> rfl
@[simp] theorem seqM_nx (b : MMS) (e : MEn) (Z : MSt) : seqM b (.nx e Z) = b e Z := rfl
@[simp] theorem seqM_rt (b : MMS) (w : MV) (Z : MSt) : seqM b (.rt w Z) = .rt w Z := rfl
@[simp] theorem seqM_err (b : MMS) (x : Exc) (Z : MSt) : seqM b (.err x Z) = .err x Z := rfl
theorem WS_seq {b : MMS} {r : RS} {P : RS → Prop} (h : WS r (fun o => WS (seqM b o) P)) : WS (seqM b r) P := by
  cases r <;> simp only [WS_nx, WS_bk, WS_ct, WS_rt, WS_err, WS_stuck] at h <;> exact h
@[simp] theorem msUnp_ (is : List Nat) (f : MM) (e : MEn) (Z : MSt) : msUnp is f e Z = xS (f e Z) fun w Z1 => match parts w with
  | some l => match setsE is l e with
    | some e' => .nx e' Z1
    | none => .stuck
  | none => .stuck := rfl
@[simp] theorem msFor_ (fi : MMA) (i : Nat) (fb : MMS) (e : MEn) (Z : MSt) : msFor fi i fb e Z = xS (fi e Z) fun ws Z1 => forM i fb ws e Z1 := rfl
theorem WS_forM {i : Nat} {fb : MMS} {P : RS → Prop} (I : Nat → MEn → MSt → Prop) : ∀ {ws : List MV} {m : Nat} {e : MEn} {Z : MSt}, I m e Z → (∀ j w, ws[j]? = some w → ∀ e Z, I (m + j) e Z → WS (fb (e.set i (.v w)) Z) (fun o => ∃ e2 Z2, o = .nx e2 Z2 ∧ I (m + j + 1) e2 Z2)) → (∀ e Z, I (m + ws.length) e Z → P (.nx e Z)) → WS (forM i fb ws e Z) P
  | [], m, e, Z, h0, _, hf => by rw [forM, WS_nx]; exact hf e Z h0
  | w :: ws, m, e, Z, h0, hs, hf => by
    obtain ⟨o, ho, e2, Z2, rfl, h2⟩ := (hs 0 w rfl e Z h0).get
    rw [forM]
    simp only [ho]
    refine WS_forM I (m := m + 1) h2 (fun j w hw e Z h => ?_) fun e Z h => hf e Z ?_
    · have := hs (j + 1) w (by simpa using hw) e Z (by rw [show m + (j + 1) = m + 1 + j by omega]; exact h)
      rw [show m + 1 + j + 1 = m + (j + 1) + 1 by omega]
      exact this
    · rw [List.length_cons, show m + (ws.length + 1) = m + 1 + ws.length by omega]; exact h
@[simp] theorem miRange_ (f : MM) (e : MEn) (Z : MSt) : miRange f e Z = (f e Z).bind fun w Z1 => match w with
  | .d (.int n) => if -100000 ≤ n ∧ n ≤ 100000 then .ok ((rangeD 0 n.toNat).map .d) Z1 else .stuck
  | _ => .stuck := rfl
end DL
set_option Elab.async false
set_option linter.all false
set_option maxRecDepth 100000
set_option maxHeartbeats 4000000
namespace LW
open PySem PySem.Spec PyProof.Rows L2 DL
end LW
section
open PySem PySem.W PySem.Calls PyProof.Rows L2 DL
theorem LW.head_of (hc : ∀ {w : World} {mg : Str → Option Value} {fa0 : Addr} {h : Heap}, LW.hk.says w h → h.Ns mainGlobals mg → mg "law" = some (.ref fa0) → ∃ K : PySem.W.Frag, K.In h ∧ LawG PySem.Challenge.rw_gaithold_k19_whole_linear_equations w K 15 mg fa0) : PySem.Challenge.rw_gaithold_k19_whole_linear_equations.Holds := by
  w_on; o_law
  refine HandSHeadRun.head_any (r := OpenLaw.row PySem.Challenge.rw_gaithold_k19_whole_linear_equations) (q := view (OpenLaw.row PySem.Challenge.rw_gaithold_k19_whole_linear_equations).prog [31]) (H := LW.hk) (ob := LW.ob) (M := 20000) (loose := LW.loose) (d := HandSHeadRun.topDef (OpenLaw.row PySem.Challenge.rw_gaithold_k19_whole_linear_equations).prog 31) (kwd := []) LW.ob_eq
    (by kernel_rfl) (fun s => by kernel_rfl) LW.run (by kernel_rfl) (by kernel_rfl) (by kernel_rfl) (by rfl) (by first | assumption | decide +kernel) (by decide +kernel) ⟨rfl, rfl, rfl, rfl, rfl, by decide +kernel⟩ ?hw ?hc
  case hw => w_witness2
  case hc =>
    refine DL.walkG (l := PySem.Challenge.rw_gaithold_k19_whole_linear_equations) (k := 15) rfl (by decide) (by kernel_rfl) ⟨rfl, by decide, by decide⟩ ?F
    intro w mg fa h Y G hmg0
    have hmg : mg ("law" : PySem.Str) = some (.ref fa) := by
      have e : (HandSHeadRun.topDef (OpenLaw.row PySem.Challenge.rw_gaithold_k19_whole_linear_equations).prog 31).name = ("law" : PySem.Str) := by kernel_rfl
      rw [← e]
      exact hmg0
    exact hc Y G hmg
end
namespace LW
open PySem PySem.Spec PyProof.Rows L2 DL
abbrev k_ZERO : D := (.tup [(.int 0), (.int 1)])
abbrev k_ONE : D := (.tup [(.int 1), (.int 1)])
@[reducible] def b_gcd : MS :=
  (sSeq (sWhile (fun e => fuGcd e) (eTest (eOp dNe (eVar 1) (eC (.int 0)))) (sPar 0 1 (aCons (eVar 1) (aCons (eOp dMod (eVar 0) (eVar 1)) aNil))))
    (sRet [] (eVar 0)))
def m_gcd : List D → Res D := runD 2 2 b_gcd
@[reducible] def b_fraction : MS :=
  (sSeq (sIf (eTest (eOp dEq (eVar 1) (eC (.int 0)))) sBad sNx)
    (sSeq (sAsg 2 (eCall m_gcd (aCons (eCall dAbs (aCons (eVar 0) aNil)) (aCons (eCall dAbs (aCons (eVar 1) aNil)) aNil))))
    (sSeq (sAsg 3 (eIf (eTest (eOp dGt (eVar 1) (eC (.int 0)))) (eC (.int 1)) (eUn dNeg (eC (.int 1)))))
    (sRet [] (eTup (aCons (eOp dFDiv (eOp dMul (eVar 3) (eVar 0)) (eVar 2)) (aCons (eOp dFDiv (eOp dMul (eVar 3) (eVar 1)) (eVar 2)) aNil)))))))
def m_fraction : List D → Res D := runD 4 2 b_fraction
@[reducible] def b_subtract : MS :=
  (sRet [] (eCallK 2 0 (fun us ws => m_fraction (picks .non us ws [(.int 1)] [] [.p 0, .p 1])) (aCons (eOp dSub (eOp dMul (eOp dIx (eVar 0) (eC (.int 0))) (eOp dIx (eVar 1) (eC (.int 1)))) (eOp dMul (eOp dIx (eVar 1) (eC (.int 0))) (eOp dIx (eVar 0) (eC (.int 1))))) (aCons (eOp dMul (eOp dIx (eVar 0) (eC (.int 1))) (eOp dIx (eVar 1) (eC (.int 1)))) aNil)) aNil))
def m_subtract : List D → Res D := runD 2 2 b_subtract
@[reducible] def b_multiply : MS :=
  (sRet [] (eCallK 2 0 (fun us ws => m_fraction (picks .non us ws [(.int 1)] [] [.p 0, .p 1])) (aCons (eOp dMul (eOp dIx (eVar 0) (eC (.int 0))) (eOp dIx (eVar 1) (eC (.int 0)))) (aCons (eOp dMul (eOp dIx (eVar 0) (eC (.int 1))) (eOp dIx (eVar 1) (eC (.int 1)))) aNil)) aNil))
def m_multiply : List D → Res D := runD 2 2 b_multiply
@[reducible] def b_divide : MS :=
  (sRet [] (eCallK 2 0 (fun us ws => m_fraction (picks .non us ws [(.int 1)] [] [.p 0, .p 1])) (aCons (eOp dMul (eOp dIx (eVar 0) (eC (.int 0))) (eOp dIx (eVar 1) (eC (.int 1)))) (aCons (eOp dMul (eOp dIx (eVar 0) (eC (.int 1))) (eOp dIx (eVar 1) (eC (.int 0)))) aNil)) aNil))
def m_divide : List D → Res D := runD 2 2 b_divide
@[reducible] def b_check_shape : MS :=
  (sSeq (sFor (iEnumD (aCons (eVar 0) aNil)) (gTp 2 (gsCons (gNm 2) (gsCons (gNm 3) gsNil))) (sIf (eTest (eOp dNe (eCall dLen (aCons (eVar 3) aNil)) (eCall dLen (aCons (eOp dIx (eVar 0) (eC (.int 0))) aNil)))) sBad sNx))
    (sIf (eTest (eOp dNe (eCall dLen (aCons (eVar 1) aNil)) (eCall dLen (aCons (eVar 0) aNil)))) sBad sNx))
def m_check_shape : List D → Res D := runD 4 2 b_check_shape
@[reducible] def b_subtract_multiple : MS :=
  (sRet [] (eOfL (aLc [3, 4] (iZipD (aCons (eVar 0) (aCons (eVar 1) aNil))) (gTp 2 (gsCons (gNm 3) (gsCons (gNm 4) gsNil))) mTrue (eIf (eTest (eOp dEq (eVar 4) (eC k_ZERO))) (eVar 3) (eCall m_subtract (aCons (eVar 3) (aCons (eCall m_multiply (aCons (eVar 2) (aCons (eVar 4) aNil))) aNil)))))))
def m_subtract_multiple : List D → Res D := runD 5 3 b_subtract_multiple
@[reducible] def b_scaled : MS :=
  (sRet [] (eOfL (aLc [2] (iSeqD (eVar 0)) (gNm 2) mTrue (eIf (eTest (eOp dEq (eVar 2) (eC k_ZERO))) (eVar 2) (eCall m_divide (aCons (eVar 2) (aCons (eVar 1) aNil)))))))
def m_scaled : List D → Res D := runD 3 2 b_scaled
@[reducible] def b_pivot : MS :=
  (sSeq (sNoRt (sAsg 3 (eCall m_scaled (aCons (eOp dIx (eVar 0) (eVar 1)) (aCons (eOp dIx (eOp dIx (eVar 0) (eVar 1)) (eVar 2)) aNil)))))
    (sSeq (sNoRt (sAsgF 4 (aLst aNil)))
    (sSeq (sNoRt (sFor (iEnumD (aCons (eVar 0) aNil)) (gTp 2 (gsCons (gNm 5) (gsCons (gNm 6) gsNil))) (sIf (eTest (eOp dEq (eVar 5) (eVar 1))) (sApp 4 (eVar 3)) (sApp 4 (eIf (eTest (eOp dEq (eOp dIx (eVar 6) (eVar 2)) (eC k_ZERO))) (eVar 6) (eCall m_subtract_multiple (aCons (eVar 6) (aCons (eVar 3) (aCons (eOp dIx (eVar 6) (eVar 2)) aNil)))))))))
    (sRetO 4))))
def m_pivot : List D → Res D := runF 7 3 b_pivot
theorem ol_pivot : ∀ ds d, m_pivot ds = .ok d → ∃ l, d = .lst l := fun ds d h => runF_l h
@[reducible] def b_unit_row : MS :=
  (sRet [] (eOfL (aLc [2] (iRange (aCons (eVar 0) aNil)) (gNm 2) mTrue (eIf (eTest (eOp dEq (eVar 2) (eVar 1))) (eC k_ONE) (eC k_ZERO)))))
def m_unit_row : List D → Res D := runD 3 2 b_unit_row
@[reducible] def b_solve_linear : MS :=
  (sSeq (sNoRt (sDrop (eCall m_check_shape (aCons (eVar 0) (aCons (eVar 1) aNil)))))
    (sSeq (sNoRt (sAsg 2 (eIf (eTest (eOp dGt (eCall dLen (aCons (eVar 0) aNil)) (eC (.int 0)))) (eCall dLen (aCons (eOp dIx (eVar 0) (eC (.int 0))) aNil)) (eC (.int 0)))))
    (sSeq (sNoRt (sAsgF 3 (aLst aNil)))
    (sSeq (sNoRt (sFor (iEnumZipD (aCons (eVar 0) (aCons (eVar 1) aNil))) (gTp 2 (gsCons (gNm 4) (gsCons (gTp 2 (gsCons (gNm 5) (gsCons (gNm 6) gsNil))) gsNil))) (sApp 3 (eOp dAdd (eOp dAdd (eCall dList (aCons (eVar 5) aNil)) (eOfL (aLst (aCons (eVar 6) aNil)))) (eCall m_unit_row (aCons (eCall dLen (aCons (eVar 0) aNil)) (aCons (eVar 4) aNil)))))))
    (sSeq (sNoRt (sFrz [3] (sAsgF 7 (aLst aNil))))
    (sSeq (sNoRt (sFor (iRange (aCons (eVar 2) aNil)) (gNm 8) (sSeq (sAsg 11 (eOfL (borF [7] (aLc [13, 14] (iSeqD (eVar 7)) (gTp 2 (gsCons (gNm 13) (gsCons (gNm 14) gsNil))) mTrue (eVar 13)))))
    (sSeq (sAsg 12 (eOfL (aLc [4, 9] (iEnumD (aCons (eVar 3) aNil)) (gTp 2 (gsCons (gNm 4) (gsCons (gNm 9) gsNil))) (tAndM (eTest (eOp dNotInS (eVar 4) (eVar 11))) (eTest (eOp dNe (eOp dIx (eVar 9) (eVar 8)) (eC k_ZERO)))) (eVar 4))))
    (sIf (eTest (eOp dNe (eVar 12) (eOfL (aLst aNil)))) (sSeq (sAsg 3 (eCall m_pivot (aCons (eVar 3) (aCons (eOp dIx (eVar 12) (eC (.int 0))) (aCons (eVar 8) aNil)))))
    (sApp 7 (eTup (aCons (eOp dIx (eVar 12) (eC (.int 0))) (aCons (eVar 8) aNil))))) sNx)))))
    (sSeq (sFor (iSeqD (eVar 3)) (gNm 9) (sIf (tAndM (eTest (eOp dNe (eOp dIx (eVar 9) (eVar 2)) (eC k_ZERO))) (eTest (eOp dEq (eSl (eVar 9) pNo (pAt (eVar 2))) (eOp dMul (eOfL (aLst (aCons (eC k_ZERO) aNil))) (eVar 2))))) (sRetCF "certificate" (aSl (eVar 9) (pAt (eOp dAdd (eVar 2) (eC (.int 1)))) pNo)) sNx))
    (sSeq (sNoRt (sFrz [7] (sAsgF 10 (aRepL (eOfL (aLst (aCons (eC k_ZERO) aNil))) (eVar 2)))))
    (sSeq (sNoRt (sFor (iSeqD (eVar 7)) (gTp 2 (gsCons (gNm 4) (gsCons (gNm 8) gsNil))) (sSetI 10 (eOp dIx (eOp dIx (eVar 3) (eVar 4)) (eVar 2)) (eVar 8))))
    (sRetCO "solution" 10))))))))))
def m_solve_linear : List D → Res D := runT 15 2 b_solve_linear
theorem ot_solve_linear : ∀ ds d, m_solve_linear ds = .ok d → ∃ l, d = .tup l := fun ds d h => runT_t h
@[reducible] def b__law_draw : MS :=
  (sSeq (sIf (tAndM (eTest (eOp dEq (rgI 0 2) (eC (.int 0)))) (eTest (eOp dLtI (rgI 0 1) (rgLen 0)))) (sSeq (sAsg 3 (rgCell 0))
    (sSeq (rgSet 0 1 (eOp dAdd (rgI 0 1) (eC (.int 1))))
    (sIf (eTest (eOp dGe (eVar 3) (eOp dPow (eC (.int 10)) (eC (.int 18))))) (rgSet 0 2 (eVar 3)) (rgSet 0 3 (eOp dMod (eOp dAdd (eOp dAdd (eOp dMul (rgI 0 3) (eC (.int 40692))) (eOp dMul (eOp dMod (eVar 3) (eC (.int 2147483563))) (eC (.int 71)))) (rgI 0 1)) (eC (.int 2147483563))))))) sNx)
    (sSeq (sIf (eTest (eOp dGt (rgI 0 2) (eC (.int 0)))) (sSeq (sAsg 4 (eOp dMod (rgI 0 2) (eVar 1)))
    (sSeq (rgSet 0 2 (eOp dFDiv (rgI 0 2) (eVar 1)))
    (sRet [] (eVar 4)))) sNx)
    (sSeq (sAsg 2 (rgI 0 3))
    (sSeq (rgSet 0 3 (eOp dMod (eOp dAdd (eOp dAdd (eOp dMul (eVar 2) (eVar 2)) (eOp dMul (eVar 2) (eC (.int 39373)))) (eC (.int 80021))) (eC (.int 2147483563))))
    (sRet [] (eOp dMod (eOp dAdd (eOp dFDiv (rgI 0 3) (eC (.int 61))) (eOp dMul (eOp dMod (rgI 0 3) (eC (.int 8123))) (eC (.int 223)))) (eVar 1)))))))
def m__law_draw : List D → Rng → Res (D × Rng) := runG 5 2 b__law_draw
@[reducible] def b__law_choice : MS :=
  (sRet [] (eOp dIx (eVar 1) (eCallG 0 m__law_draw (aCons (eCall dLen (aCons (eVar 1) aNil)) aNil))))
def m__law_choice : List D → Rng → Res (D × Rng) := runG 2 2 b__law_choice
@[reducible] def b__law_equal (r__law_equal : List D → Res D) : MS :=
  (sSeq (sIf (eTest (eOp dIsN (eVar 1) (eC (.non)))) (sRet [] (eOp dIsN (eVar 0) (eC (.non)))) sNx)
    (sSeq (sIf (tOrM (eTest (eIsi .tList (eVar 1))) (eTest (eIsi .tTup (eVar 1)))) (sSeq (sIf (tOrM (eTest (eOp dNe (eIsi .tList (eVar 0)) (eIsi .tList (eVar 1)))) (eTest (eOp dNe (eIsi .tTup (eVar 0)) (eIsi .tTup (eVar 1))))) (sRet [] (eC (.bl false))) sNx)
    (sRet [] (eAnd (eOp dEq (eCall dLen (aCons (eVar 0) aNil)) (eCall dLen (aCons (eVar 1) aNil))) (eCall dAll (aCons (eOfL (aLc [2, 3] (iZipD (aCons (eVar 0) (aCons (eVar 1) aNil))) (gTp 2 (gsCons (gNm 2) (gsCons (gNm 3) gsNil))) mTrue (eCall r__law_equal (aCons (eVar 2) (aCons (eVar 3) aNil))))) aNil))))) sNx)
    (sSeq (sIf (tOrM (eTest (eOp dNe (eIsi .tBool (eVar 1)) (eIsi .tBool (eVar 0)))) (eTest (eOp dNe (eIsi .tInt (eVar 1)) (eIsi .tInt (eVar 0))))) (sRet [] (eC (.bl false))) sNx)
    (sRet [] (eAnd (eOp dEq (eIsi .tStr (eVar 0)) (eIsi .tStr (eVar 1))) (eOp dEq (eVar 0) (eVar 1)))))))
def m__law_equal : Nat → List D → Res D
  | 0 => fun _ => .stuck
  | n + 1 => runD 4 2 (b__law_equal (m__law_equal n))
@[reducible] def b__law_reduce : MS :=
  (sSeq (sPar 2 3 (aCons (eCall dAbs (aCons (eVar 0) aNil)) (aCons (eCall dAbs (aCons (eVar 1) aNil)) aNil)))
    (sSeq (sWhile (fun e => fuGcd2 e) (eTest (eOp dNe (eVar 3) (eC (.int 0)))) (sPar 2 3 (aCons (eVar 3) (aCons (eOp dMod (eVar 2) (eVar 3)) aNil))))
    (sSeq (sAsg 4 (eIf (eTest (eOp dGt (eVar 1) (eC (.int 0)))) (eC (.int 1)) (eUn dNeg (eC (.int 1)))))
    (sRet [] (eTup (aCons (eOp dFDiv (eOp dMul (eVar 4) (eVar 0)) (eVar 2)) (aCons (eOp dFDiv (eOp dMul (eVar 4) (eVar 1)) (eVar 2)) aNil)))))))
def m__law_reduce : List D → Res D := runD 5 2 b__law_reduce
@[reducible] def b__law_add : MS :=
  (sRet [] (eCall m__law_reduce (aCons (eOp dAdd (eOp dMul (eOp dIx (eVar 0) (eC (.int 0))) (eOp dIx (eVar 1) (eC (.int 1)))) (eOp dMul (eOp dIx (eVar 1) (eC (.int 0))) (eOp dIx (eVar 0) (eC (.int 1))))) (aCons (eOp dMul (eOp dIx (eVar 0) (eC (.int 1))) (eOp dIx (eVar 1) (eC (.int 1)))) aNil))))
def m__law_add : List D → Res D := runD 2 2 b__law_add
@[reducible] def b__law_multiply : MS :=
  (sRet [] (eCall m__law_reduce (aCons (eOp dMul (eOp dIx (eVar 0) (eC (.int 0))) (eOp dIx (eVar 1) (eC (.int 0)))) (aCons (eOp dMul (eOp dIx (eVar 0) (eC (.int 1))) (eOp dIx (eVar 1) (eC (.int 1)))) aNil))))
def m__law_multiply : List D → Res D := runD 2 2 b__law_multiply
@[reducible] def b__law_sum : MS :=
  (sSeq (sAsg 1 (eTup (aCons (eC (.int 0)) (aCons (eC (.int 1)) aNil))))
    (sSeq (sFor (iSeqD (eVar 0)) (gNm 2) (sAsg 1 (eCall m__law_add (aCons (eVar 1) (aCons (eVar 2) aNil)))))
    (sRet [] (eVar 1))))
def m__law_sum : List D → Res D := runD 3 1 b__law_sum
@[reducible] def b__law_small : MS :=
  (sRet [] (eCall m__law_reduce (aCons (eOp dSub (eCallG 0 m__law_draw (aCons (eC (.int 25)) aNil)) (eC (.int 8))) (aCons (eCallG 0 m__law_choice (aCons (eOfL (aLst (aCons (eC (.int 1)) (aCons (eC (.int 1)) (aCons (eC (.int 1)) (aCons (eC (.int 2)) (aCons (eC (.int 3)) (aCons (eC (.int 4)) aNil)))))))) aNil)) aNil))))
def m__law_small : List D → Rng → Res (D × Rng) := runG 1 1 b__law_small
@[reducible] def b__law_linear_case : MS :=
  (sSeq (sAsgG (gTp 2 (gsCons (gNm 1) (gsCons (gNm 2) gsNil))) (eTup (aCons (eOp dAdd (eC (.int 1)) (eCallG 0 m__law_draw (aCons (eC (.int 5)) aNil))) (aCons (eOp dAdd (eC (.int 1)) (eCallG 0 m__law_draw (aCons (eC (.int 5)) aNil))) aNil))))
    (sSeq (sAsgF 3 (aLc [7] (iRange (aCons (eVar 1) aNil)) (gNm 7) mTrue (eOfL (aLc [8] (iRange (aCons (eVar 2) aNil)) (gNm 8) mTrue (eCallG 0 m__law_choice (aCons (eOfL (aLst (aCons (eTup (aCons (eC (.int 0)) (aCons (eC (.int 1)) aNil))) (aCons (eCallG 0 m__law_small aNil) aNil)))) aNil))))))
    (sSeq (sIf (tAndM (eTest (eOp dGt (eVar 1) (eC (.int 1)))) (eTest (eOp dEq (eCallG 0 m__law_draw (aCons (eC (.int 2)) aNil)) (eC (.int 0))))) (sSeq (sAsg 6 (eCallG 0 m__law_small aNil))
    (sSetI 3 (eOfL (borF [3] (aLc [10, 11] (iZipD (aCons (eOp dIx (eVar 3) (eC (.int 0))) (aCons (eOp dIx (eVar 3) (eOp dSub (eVar 1) (eC (.int 1)))) aNil))) (gTp 2 (gsCons (gNm 10) (gsCons (gNm 11) gsNil))) mTrue (eCall m__law_add (aCons (eVar 10) (aCons (eCall m__law_multiply (aCons (eVar 6) (aCons (eVar 11) aNil))) aNil)))))) (eCallG 0 m__law_draw (aCons (eVar 1) aNil)))) sNx)
    (sSeq (sAsg 4 (eOfL (aLc [8] (iRange (aCons (eVar 2) aNil)) (gNm 8) mTrue (eCallG 0 m__law_small aNil))))
    (sSeq (sFrz [3] (sAsgF 5 (aLc [9] (iSeqD (eVar 3)) (gNm 9) mTrue (eCall m__law_sum (aCons (eOfL (aLc [10, 11] (iZipD (aCons (eVar 9) (aCons (eVar 4) aNil))) (gTp 2 (gsCons (gNm 10) (gsCons (gNm 11) gsNil))) mTrue (eCall m__law_multiply (aCons (eVar 10) (aCons (eVar 11) aNil))))) aNil)))))
    (sSeq (sIf (eTest (eOp dEq (eCallG 0 m__law_draw (aCons (eC (.int 2)) aNil)) (eC (.int 0)))) (sSetI 5 (eCallG 0 m__law_small aNil) (eCallG 0 m__law_draw (aCons (eVar 1) aNil))) sNx)
    (sRet [5] (eTup (aCons (eVar 3) (aCons (eVar 5) aNil))))))))))
def m__law_linear_case : List D → Rng → Res (D × Rng) := runG 12 1 b__law_linear_case
@[reducible] def b__law_check_solution : MS :=
  (sSeq (sAsgG (gTp 2 (gsCons (gNm 3) (gsCons (gNm 4) gsNil))) (eVar 2))
    (sSeq (sIf (eTest (eOp dEq (eVar 3) (eC (.str "solution")))) (sSeq (sIf (eTest (eOp dNe (eCall dLen (aCons (eVar 4) aNil)) (eCall dLen (aCons (eOp dIx (eOp dAdd (eVar 0) (eOfL (aLst (aCons (eOfL (aLst aNil)) aNil)))) (eC (.int 0))) aNil)))) (sRet [] (eC (.bl false))) sNx)
    (sRet [] (eOp dEq (eOfL (aLc [6] (iSeqD (eVar 0)) (gNm 6) mTrue (eCall m__law_sum (aCons (eOfL (aLc [7, 8] (iZipD (aCons (eVar 6) (aCons (eVar 4) aNil))) (gTp 2 (gsCons (gNm 7) (gsCons (gNm 8) gsNil))) mTrue (eCall m__law_multiply (aCons (eVar 7) (aCons (eVar 8) aNil))))) aNil)))) (eCall dList (aCons (eVar 1) aNil))))) sNx)
    (sSeq (sIf (tOrM (eTest (eOp dNe (eVar 3) (eC (.str "certificate")))) (eTest (eOp dNe (eCall dLen (aCons (eVar 4) aNil)) (eCall dLen (aCons (eVar 0) aNil))))) (sRet [] (eC (.bl false))) sNx)
    (sSeq (sFor (iRange (aCons (eCall dLen (aCons (eOp dIx (eOp dAdd (eVar 0) (eOfL (aLst (aCons (eOfL (aLst aNil)) aNil)))) (eC (.int 0))) aNil)) aNil)) (gNm 5) (sIf (eTest (eOp dNe (eCall m__law_sum (aCons (eOfL (aLc [7, 6] (iZipD (aCons (eVar 4) (aCons (eVar 0) aNil))) (gTp 2 (gsCons (gNm 7) (gsCons (gNm 6) gsNil))) mTrue (eCall m__law_multiply (aCons (eVar 7) (aCons (eOp dIx (eVar 6) (eVar 5)) aNil))))) aNil)) (eTup (aCons (eC (.int 0)) (aCons (eC (.int 1)) aNil))))) (sRet [] (eC (.bl false))) sNx))
    (sRet [] (eOp dNe (eCall m__law_sum (aCons (eOfL (aLc [7, 8] (iZipD (aCons (eVar 4) (aCons (eVar 1) aNil))) (gTp 2 (gsCons (gNm 7) (gsCons (gNm 8) gsNil))) mTrue (eCall m__law_multiply (aCons (eVar 7) (aCons (eVar 8) aNil))))) aNil)) (eTup (aCons (eC (.int 0)) (aCons (eC (.int 1)) aNil)))))))))
def m__law_check_solution : List D → Res D := runD 9 3 b__law_check_solution
@[reducible] def bb_law : MMS :=
  (msSeq (msFor (miRange (mLift false (eC (.int 4)))) 2 (msSeq (msUnp [3, 4] (mLift false (eCallG 1 m__law_linear_case aNil)))
    (msSeq (msAsg 9 (mLift false (eOfL (aLst (aCons (eOfL (aLc [13] (iSeqD (eVar 3)) (gNm 13) mTrue (eCall dList (aCons (eVar 13) aNil)))) (aCons (eCall dList (aCons (eVar 4) aNil)) aNil))))))
    (msSeq (msAsg 7 (mLiftT [false, true] false (aCallT m_solve_linear (aCons (eOp dIx (eVar 9) (eC (.int 0))) (aCons (eOp dIx (eVar 9) (eC (.int 1))) aNil)))))
    (msSeq (msIf (tBor false (tOrM (eTest (eOp dNe (eVar 9) (eOfL (aLst (aCons (eVar 3) (aCons (eVar 4) aNil)))))) (tOrM (tNotM (eTest (eIsi .tTup (eVar 7)))) (tOrM (eTest (eOp dNe (eCall dLen (aCons (eVar 7) aNil)) (eC (.int 2)))) (tNotM (eTest (eIsi .tList (eOp dIx (eVar 7) (eC (.int 1)))))))))) (msRet (mLift false (eC (.bl false)))) msNx)
    (msSeq (msIf (tBor false (tOrM (eTest (eOp dNotInS (eOp dIx (eVar 7) (eC (.int 0))) (eTup (aCons (eC (.str "solution")) (aCons (eC (.str "certificate")) aNil))))) (tNotM (eTest (eCall m__law_check_solution (aCons (eVar 3) (aCons (eVar 4) (aCons (eVar 7) aNil)))))))) (msRet (mLift false (eC (.bl false)))) msNx)
    (msSeq (msIf (tBor false (tNotM (eTest (eCall dAll (aCons (eOfL (aLc [14] (iSeqD (eOp dIx (eVar 7) (eC (.int 1)))) (gNm 14) mTrue (eCall (m__law_equal 12) (aCons (eVar 14) (aCons (eCall m__law_reduce (aCons (eOp dIx (eVar 14) (eC (.int 0))) (aCons (eOp dIx (eVar 14) (eC (.int 1))) aNil))) aNil))))) aNil))))) (msRet (mLift false (eC (.bl false)))) msNx)
    (msSeq (msAsg 10 (mBor false (eUn dRepr (eVar 7))))
    (msSeq (msDrop (mApp (mIx (mVar 7) (mLift false (eC (.int 1)))) (mLift false (eC (.int 0)))))
    (msIf (tLift false (eTest (eOp dNe (eUn dRepr (eCallK 0 2 (fun us ws => m_solve_linear (picks .non us ws [] [] [.k 1, .k 0])) aNil (aCons (eCall dTupOf (aCons (eVar 4) aNil)) (aCons (eOfL (aLc [13] (iSeqD (eVar 3)) (gNm 13) mTrue (eCall dTupOf (aCons (eVar 13) aNil)))) aNil)))) (eVar 10)))) (msRet (mLift false (eC (.bl false)))) msNx))))))))))
    (msSeq (msLiftS [3] (sSeq (sAsgF 3 (aLc [11] (iRange (aCons (eC (.int 24)) aNil)) (gNm 11) mTrue (eOfL (aLc [12] (iRange (aCons (eC (.int 24)) aNil)) (gNm 12) mTrue (eTup (aCons (eCall dIntOf (aCons (eOp dEq (eVar 12) (eVar 11)) aNil)) (aCons (eC (.int 1)) aNil))))))) (sSetI 3 (eOfL (aLc [12] (iRange (aCons (eC (.int 24)) aNil)) (gNm 12) mTrue (eTup (aCons (eOp dAdd (eC (.int 1)) (eCallG 1 m__law_draw (aCons (eC (.int 3)) aNil))) (aCons (eC (.int 1)) aNil))))) (eCallG 1 m__law_draw (aCons (eC (.int 24)) aNil)))))
    (msSeq (msAsg 4 (mOfF (fLift false (aLc [13] (iSeqD (eVar 3)) (gNm 13) mTrue (eCallG 1 m__law_small aNil)))))
    (msSeq (msIf (tLift false (tNotM (eTest (eCall m__law_check_solution (aCons (eVar 3) (aCons (eVar 4) (aCons (eCall m_solve_linear (aCons (eVar 3) (aCons (eVar 4) aNil))) aNil))))))) (msRet (mLift false (eC (.bl false)))) msNx)
    (msSeq (msAsg 5 (mLift false (eOp dAdd (eSl (eVar 3) pNo (pAt (eC (.int 23)))) (eOfL (aLst (aCons (eOp dIx (eVar 3) (eC (.int 0))) aNil))))))
    (msSeq (msAsg 6 (mLift false (eOp dAdd (eSl (eVar 4) pNo (pAt (eC (.int 23)))) (eOfL (aLst (aCons (eCall m__law_add (aCons (eOp dIx (eVar 4) (eC (.int 0))) (aCons (eTup (aCons (eC (.int 1)) (aCons (eC (.int 1)) aNil))) aNil))) aNil))))))
    (msSeq (msAsg 7 (mLift false (eCall m_solve_linear (aCons (eVar 5) (aCons (eVar 6) aNil)))))
    (msSeq (msIf (tBor false (tOrM (eTest (eOp dNe (eOp dIx (eVar 7) (eC (.int 0))) (eC (.str "certificate")))) (tNotM (eTest (eCall m__law_check_solution (aCons (eVar 5) (aCons (eVar 6) (aCons (eVar 7) aNil)))))))) (msRet (mLift false (eC (.bl false)))) msNx)
    (msSeq (msAsg 8 (mLift false (eOfL (aLst (aCons (eCall m_solve_linear (aCons (eOfL (aLst aNil)) (aCons (eOfL (aLst aNil)) aNil))) (aCons (eCall m_solve_linear (aCons (eOfL (aLst (aCons (eOfL (aLst aNil)) aNil))) (aCons (eOfL (aLst (aCons (eTup (aCons (eC (.int 0)) (aCons (eC (.int 1)) aNil))) aNil))) aNil))) (aCons (eOp dIx (eCall m_solve_linear (aCons (eOfL (aLst (aCons (eOfL (aLst aNil)) aNil))) (aCons (eOfL (aLst (aCons (eTup (aCons (eC (.int 2)) (aCons (eC (.int 1)) aNil))) aNil))) aNil))) (eC (.int 0))) aNil)))))))
    (msRet (mLift false (eCall (m__law_equal 12) (aCons (eVar 8) (aCons (eOfL (aLst (aCons (eTup (aCons (eC (.str "solution")) (aCons (eOfL (aLst aNil)) aNil))) (aCons (eTup (aCons (eC (.str "solution")) (aCons (eOfL (aLst aNil)) aNil))) (aCons (eC (.str "certificate")) aNil))))) aNil))))))))))))))
def drawTail : MS :=
  sSeq (sIf (eTest (eOp dGt (rgI 0 2) (eC (.int 0)))) (sSeq (sAsg 4 (eOp dMod (rgI 0 2) (eVar 1))) (sSeq (rgSet 0 2 (eOp dFDiv (rgI 0 2) (eVar 1))) (sRet [] (eVar 4)))) sNx)
    (sSeq (sAsg 2 (rgI 0 3)) (sSeq (rgSet 0 3 (eOp dMod (eOp dAdd (eOp dAdd (eOp dMul (eVar 2) (eVar 2)) (eOp dMul (eVar 2) (eC (.int 39373)))) (eC (.int 80021))) (eC (.int 2147483563))))
    (sRet [] (eOp dMod (eOp dAdd (eOp dFDiv (rgI 0 3) (eC (.int 61))) (eOp dMul (eOp dMod (rgI 0 3) (eC (.int 8123))) (eC (.int 223)))) (eVar 1)))))
def drawHead : MS := sIf (tAndM (eTest (eOp dEq (rgI 0 2) (eC (.int 0)))) (eTest (eOp dLtI (rgI 0 1) (rgLen 0)))) (sSeq (sAsg 3 (rgCell 0))
    (sSeq (rgSet 0 1 (eOp dAdd (rgI 0 1) (eC (.int 1))))
    (sIf (eTest (eOp dGe (eVar 3) (eOp dPow (eC (.int 10)) (eC (.int 18))))) (rgSet 0 2 (eVar 3)) (rgSet 0 3 (eOp dMod (eOp dAdd (eOp dAdd (eOp dMul (rgI 0 3) (eC (.int 40692))) (eOp dMul (eOp dMod (eVar 3) (eC (.int 2147483563))) (eC (.int 71)))) (rgI 0 1)) (eC (.int 2147483563))))))) sNx
theorem draw_parts : b__law_draw = sSeq drawHead drawTail := rfl
theorem draw_ok {q : Int} {g : Rng} (hg : g.Ok) (h0 : 0 < q) (h1 : q < 18446744073709551616) : WG (m__law_draw [.int q] g) (fun d g' => g'.Ok ∧ intI (fun z => 0 ≤ z ∧ z < q) d) := by
  have fin : ∀ (s3 s4 : Slot) (g : Rng), g.Ok → WV (drawTail [.rng, .sh (.int q), .un, s3, s4] g)
      (rtI fun d g' => g'.Ok ∧ intI (fun z => 0 ≤ z ∧ z < q) d) := by
    rintro s3 s4 g ⟨i0, b0, s0, s1, cl⟩
    unfold drawTail
    by_cases hb : 0 < g.b
    · simp [rgI, rgSet, hb, dMod_pos h0, dFDiv_64 h0 h1, Int.ediv_nonneg b0 (Int.le_of_lt h0)]
      exact ⟨⟨i0, Int.ediv_nonneg b0 (Int.le_of_lt h0), s0, s1, cl⟩, Int.emod_nonneg _ (by omega), Int.emod_lt_of_pos _ h0⟩
    · have m1 := sq_bound s0 s1
      have n1 := Int.emod_nonneg (g.s * g.s + g.s * 39373 + 80021) (show (2147483563 : Int) ≠ 0 by decide)
      have n2 := Int.emod_lt_of_pos (g.s * g.s + g.s * 39373 + 80021) (show (0 : Int) < 2147483563 by decide)
      have e1 : dMul (.int g.s) (.int g.s) = .ok (.int (g.s * g.s)) := dMul_64 (by omega) (by omega) (by omega) (by omega)
      have e2 : dMul (.int g.s) (.int 39373) = .ok (.int (g.s * 39373)) := dMul_64 (by omega) (by omega) (by omega) (by omega)
      have e3 : dMul (.int ((g.s * g.s + g.s * 39373 + 80021) % 2147483563 % 8123)) (.int 223) = .ok (.int ((g.s * g.s + g.s * 39373 + 80021) % 2147483563 % 8123 * 223)) := dMul_64 (by omega) (by omega) (by omega) (by omega)
      simp [rgI, rgSet, hb, e1, e2, dMod_pos, n1, n2, h0, dFDiv_64, e3]
      exact ⟨⟨i0, b0, n1, n2, cl⟩, Int.emod_nonneg _ (by omega), Int.emod_lt_of_pos _ h0⟩
  obtain ⟨i0, b0, s0, s1, cl⟩ := id hg
  refine WG_runG (by rfl) ?_
  show WV (b__law_draw [.rng, .sh (.int q), .un, .un, .un] g) _
  rw [draw_parts, sSeq_]
  unfold drawHead
  by_cases c1 : g.b = 0 ∧ g.i < g.cells.length
  · obtain ⟨z, hz⟩ := atI_some i0 c1.2
    by_cases c2 : 1000000000000000000 ≤ z
    · simp [rgI, rgLen, rgCell, rgSet, c1, hz, c2, show 0 ≤ g.i + 1 by omega, show 0 ≤ z by omega]
      exact fin _ _ _ ⟨by show 0 ≤ g.i + 1; omega, by show 0 ≤ z; omega, s0, s1, cl⟩
    · have n0 := Int.emod_nonneg z (show (2147483563 : Int) ≠ 0 by decide)
      have n1 := Int.emod_lt_of_pos z (show (0 : Int) < 2147483563 by decide)
      have e1 : dMul (.int g.s) (.int 40692) = .ok (.int (g.s * 40692)) := dMul_64 (by omega) (by omega) (by omega) (by omega)
      have e2 : dMul (.int (z % 2147483563)) (.int 71) = .ok (.int (z % 2147483563 * 71)) := dMul_64 (by omega) (by omega) (by omega) (by omega)
      have k1 := Int.emod_nonneg (g.s * 40692 + z % 2147483563 * 71 + (g.i + 1)) (show (2147483563 : Int) ≠ 0 by decide)
      have k2 := Int.emod_lt_of_pos (g.s * 40692 + z % 2147483563 * 71 + (g.i + 1)) (show (0 : Int) < 2147483563 by decide)
      simp [rgI, rgLen, rgCell, rgSet, c1, hz, c2, show 0 ≤ g.i + 1 by omega, dMod_pos, e1, e2, k1, k2]
      exact fin _ _ _ ⟨by show 0 ≤ g.i + 1; omega, Int.le_refl _, k1, k2, cl⟩
  · have : ((g.b = 0) = True → ¬ g.i < g.cells.length) := fun h z => c1 ⟨of_eq_true h, z⟩
    by_cases c3 : g.b = 0
    · have c4 : ¬ g.i < g.cells.length := fun z => c1 ⟨c3, z⟩
      simp [rgI, rgLen, c3, c4]
      exact fin _ _ _ hg
    · simp [rgI, rgLen, c3]
      exact fin _ _ _ hg
theorem draw_then {q : Int} {g : Rng} {Q : D → Rng → Prop} (hg : g.Ok) (h0 : 0 < q) (h1 : q < 18446744073709551616) (k : ∀ (z : Int) g', g'.Ok → 0 ≤ z → z < q → Q (.int z) g') : WG (m__law_draw [.int q] g) Q :=
  (draw_ok hg h0 h1).mono fun d g' ⟨h2, h3⟩ => by
    obtain ⟨z, rfl, z0, z1⟩ := intI_get h3
    exact k z g' h2 z0 z1
theorem choice_ok {l : List D} {g : Rng} (hg : g.Ok) (h0 : l ≠ []) (h1 : l.length ≤ 1000) : WG (m__law_choice [.lst l] g) (fun d g' => g'.Ok ∧ d ∈ l) := by
  have hl : 0 < l.length := List.length_pos_iff.mpr h0
  refine WG_runG (by rfl) ?_
  show WV (b__law_choice [.rng, .sh (.lst l)] g) _
  unfold b__law_choice
  try simp
  refine draw_then hg (by omega) (by omega) fun z g' h2 z0 z1 => ?_
  obtain ⟨x, hx⟩ := atI_some (l := l) z0 z1
  simp [hx, h2]
  unfold atI at hx
  cases hn : ixN l.length z with
  | none => rw [hn] at hx; cases hx
  | some j =>
    rw [hn] at hx
    exact List.mem_of_getElem? hx
theorem choice_then {l : List D} {g : Rng} {Q : D → Rng → Prop} (hg : g.Ok) (h0 : l ≠ []) (h1 : l.length ≤ 1000) (k : ∀ d g', g'.Ok → d ∈ l → Q d g') : WG (m__law_choice [.lst l] g) Q :=
  (choice_ok hg h0 h1).mono fun d g' ⟨h2, h3⟩ => k d g' h2 h3
def gcdI (a b : Int) : Int := (Int.gcd a b : Nat)
theorem emod_gcd (a b : Int) : Int.gcd b (a % b) = Int.gcd a b := by
  have h := Int.gcd_add_mul_left_right b (a % b) (a / b)
  rw [Int.emod_add_mul_ediv] at h
  rw [← h, Int.gcd_comm]
theorem reduce_loop (s0 s1 s4 : Slot) (g : Rng) : ∀ (n : Nat) (a b : Int), 0 ≤ a → 0 ≤ b → b.natAbs < n →
    whileL (eTest (eOp dNe (eVar 3) (eC (.int 0)))) (sPar 2 3 (aCons (eVar 3) (aCons (eOp dMod (eVar 2) (eVar 3)) aNil))) n [s0, s1, .sh (.int a), .sh (.int b), s4] g = .ok (.nx [s0, s1, .sh (.int (gcdI a b)), .sh (.int 0), s4] g)
  | 0, a, b, _, _, h => by omega
  | n + 1, a, b, ha, hb, h => by
    rw [whileL]
    by_cases h0 : b = 0
    · subst h0
      simp [gcdI]
      omega
    · have hp : 0 < b := by omega
      simp [h0, dMod_pos hp]
      rw [reduce_loop s0 s1 s4 g n b (a % b) hb (Int.emod_nonneg _ h0) (by have := Int.emod_lt_of_pos a hp; have := Int.emod_nonneg a h0; omega)]
      simp [gcdI, emod_gcd]
def absI (n : Int) : Int := if n < 0 then -n else n
def sgnI (d : Int) : Int := if 0 < d then 1 else -1
theorem gcd_abs (n d : Int) : gcdI (absI n) (absI d) = gcdI n d := by
  unfold gcdI absI
  congr 1
  split <;> split <;> simp
theorem gcdI_pos {n d : Int} (h : d ≠ 0) : 0 < gcdI n d := by
  unfold gcdI
  have : 0 < Int.gcd n d := Int.gcd_pos_of_ne_zero_right _ h
  omega
theorem gcdI_le {n d : Int} (h : d ≠ 0) : gcdI n d ≤ absI d := by
  unfold gcdI absI
  have h1 : Int.gcd n d ≤ d.natAbs := Nat.le_of_dvd (by omega) (Int.gcd_dvd_natAbs_right n d)
  split <;> omega
def redN (n d : Int) : Int := sgnI d * n / gcdI n d
def redD (n d : Int) : Int := sgnI d * d / gcdI n d
theorem sgn_mul_abs (d : Int) : sgnI d * d = absI d := by
  unfold sgnI absI
  by_cases h : 0 < d
  · rw [if_pos h, if_neg (by omega)]; omega
  · rw [if_neg h]; split <;> omega
theorem red_mul {n d : Int} : redN n d * gcdI n d = sgnI d * n ∧ redD n d * gcdI n d = absI d := by
  have h1 : gcdI n d ∣ n := Int.gcd_dvd_left n d
  have h2 : gcdI n d ∣ d := Int.gcd_dvd_right n d
  constructor
  · exact Int.ediv_mul_cancel (Int.dvd_trans h1 (Int.dvd_mul_left _ _))
  · rw [← sgn_mul_abs]
    exact Int.ediv_mul_cancel (Int.dvd_trans h2 (Int.dvd_mul_left _ _))
theorem le_mul_one {a b : Int} (ha : 0 ≤ a) (hb : 1 ≤ b) : a ≤ a * b := by
  have h := Int.mul_le_mul_of_nonneg_left hb ha
  rwa [Int.mul_one] at h
theorem pos_of_mul_pos {a b : Int} (h : 0 < a * b) (hb : 0 < b) : 0 < a := by
  by_cases ha : 0 < a
  · exact ha
  · have h1 := Int.mul_le_mul_of_nonneg_right (show a ≤ 0 by omega) (Int.le_of_lt hb)
    rw [Int.zero_mul] at h1
    omega
theorem redD_pos {n d : Int} (h : d ≠ 0) : 0 < redD n d := by
  have h1 := (red_mul (n := n) (d := d)).2
  have h2 := gcdI_pos (n := n) h
  have h3 : 0 < absI d := by unfold absI; split <;> omega
  rw [← h1] at h3
  exact pos_of_mul_pos h3 h2
theorem redD_le {n d : Int} (h : d ≠ 0) : redD n d ≤ absI d := by
  have h1 := (red_mul (n := n) (d := d)).2
  have h2 := gcdI_pos (n := n) h
  have h3 := redD_pos (n := n) h
  rw [← h1]
  exact le_mul_one (Int.le_of_lt h3) (by omega)
theorem redN_le {n d : Int} (h : d ≠ 0) : absI (redN n d) ≤ absI n := by
  have h1 := (red_mul (n := n) (d := d)).1
  have h2 := gcdI_pos (n := n) h
  have h3 : absI (redN n d) * gcdI n d = absI n := by
    have hs : absI (sgnI d * n) = absI n := by
      unfold sgnI absI; split <;> split <;> split <;> omega
    rw [← hs, ← h1]
    unfold absI
    by_cases hn : redN n d < 0
    · rw [if_pos hn, if_pos (Int.mul_neg_of_neg_of_pos hn h2), Int.neg_mul]
    · rw [if_neg hn, if_neg (Int.not_lt.mpr (Int.mul_nonneg (by omega) (Int.le_of_lt h2)))]
  have h4 : 0 ≤ absI (redN n d) := by unfold absI; split <;> omega
  rw [← h3]
  exact le_mul_one h4 (by omega)
theorem lcL_mapT {α : Type} {tf : TgF} {fe : ME} {e : En} {g : Rng} {φ ψ : α → D} : ∀ {ts : List α}, (∀ t, t ∈ ts → ∃ e1, tf (φ t) e = some e1 ∧ fe e1 g = .ok (ψ t, g)) → lcL tf mTrue fe (ts.map φ) e g = .ok (ts.map ψ, g)
  | [], _ => by rw [List.map_nil, lcL]; rfl
  | t :: ts, h => by
    obtain ⟨e1, h1, h2⟩ := h t List.mem_cons_self
    have ih := lcL_mapT (φ := φ) (ψ := ψ) fun x hx => h x (List.mem_cons_of_mem _ hx)
    rw [List.map_cons, lcL]
    simp only [h1, mTrue_, bind_ok, if_true, h2]
    rw [ih]
    rfl
def eqOk : Nat → D → Prop
  | 0, _ => False
  | n + 1, .tup l => l.length ≤ 1000 ∧ ∀ x, x ∈ l → eqOk n x
  | n + 1, .lst l => l.length ≤ 1000 ∧ ∀ x, x ∈ l → eqOk n x
  | _ + 1, .int _ => True
  | _ + 1, .bl _ => True
  | _ + 1, .str z => PyData.strOk z = true
  | _ + 1, .non => True
  | _ + 1, _ => False
theorem eqOk_mono : ∀ {n m : Nat} {d : D}, n ≤ m → eqOk n d → eqOk m d
  | 0, _, _, _, h => by simp [eqOk] at h
  | n + 1, 0, _, h, _ => by omega
  | n + 1, m + 1, d, h, hd => by
    cases d <;> simp only [eqOk] at hd ⊢ <;> first | exact hd | exact ⟨hd.1, fun x hx => eqOk_mono (by omega) (hd.2 x hx)⟩
theorem equal_lc (r : List D → Res D) (e0 e1 : Slot) (g : Rng) : ∀ l : List D, (∀ x, x ∈ l → r [x, x] = .ok (.bl true)) → lcL (gTp 2 (gsCons (gNm 2) (gsCons (gNm 3) gsNil))) mTrue (eCall r (aCons (eVar 2) (aCons (eVar 3) aNil))) ((l.zip l).map fun q => .tup [q.1, q.2]) [e0, e1, .un, .un] g = .ok (l.map fun _ => .bl true, g)
  | [], _ => by simp [lcL]
  | x :: l, h => by
    have h1 := equal_lc r e0 e1 g l fun y hy => h y (List.mem_cons_of_mem _ hy)
    simp [lcL, h x List.mem_cons_self]
    rw [h1]
    simp
theorem bools_true : ∀ l : List D, bools (l.map fun _ => .bl true) = some (l.map fun _ => true)
  | [] => by simp
  | x :: l => by simp [bools_true l]
theorem equal_refl : ∀ (n : Nat) (d : D), eqOk n d → m__law_equal n [d, d] = .ok (.bl true)
  | 0, _, h => by simp [eqOk] at h
  | n + 1, d, h => by
    rw [m__law_equal, runD, if_pos (by rfl)]
    show resD (b__law_equal _ [.sh d, .sh d, .un, .un] g0) = _
    unfold b__law_equal
    cases d with
    | int i => simp
    | bl i => simp
    | non => simp
    | str i => simp [dEq_ss (show PyData.strOk i = true from h) (show PyData.strOk i = true from h)]
    | tup l =>
      simp only [eqOk] at h
      have hl : ((l.zip l).map fun q => D.tup [q.1, q.2]).length ≤ 1000 := by simp; omega
      simp [aLc_, wipeE, Slot.isOw, hl]
      rw [if_pos (by omega), equal_lc _ _ _ _ l fun x hx => equal_refl n x (h.2 x hx)]
      simp [bools_true]
    | lst l =>
      simp only [eqOk] at h
      have hl : ((l.zip l).map fun q => D.tup [q.1, q.2]).length ≤ 1000 := by simp; omega
      simp [aLc_, wipeE, Slot.isOw, hl]
      rw [if_pos (by omega), equal_lc _ _ _ _ l fun x hx => equal_refl n x (h.2 x hx)]
      simp [bools_true]
    | dic k l => simp [eqOk] at h
    | ins c k l => simp [eqOk] at h
    | key k => simp [eqOk] at h
    | dcT k l => simp [eqOk] at h
theorem eqOk_lay : ∀ {n : Nat} {d : D}, eqOk n d → d.py.canLay0 = true ∧ d.py.depth ≤ n
  | 0, d, h => by simp [eqOk] at h
  | n + 1, d, h => by
    have all : ∀ l : List D, (∀ x, x ∈ l → eqOk n x) → PyData.canLayAll0 (D.pyL l) = true ∧ PyData.depthAll (D.pyL l) ≤ n := by
      intro l
      induction l with
      | nil => intro _; rw [D.pyL]; exact ⟨by rw [PyData.canLayAll0], by rw [PyData.depthAll]; omega⟩
      | cons x l ih =>
        intro hx
        obtain ⟨h1, h2⟩ := eqOk_lay (hx x List.mem_cons_self)
        obtain ⟨h3, h4⟩ := ih fun y hy => hx y (List.mem_cons_of_mem _ hy)
        rw [D.pyL]
        exact ⟨by rw [PyData.canLayAll0, h1, h3]; rfl, by rw [PyData.depthAll]; omega⟩
    cases d with
    | int i => simp [PyData.canLay0, PyData.depth]
    | bl i => simp [PyData.canLay0, PyData.depth]
    | non => simp [PyData.canLay0, PyData.depth]
    | str i => simp [PyData.canLay0, PyData.depth]; exact h
    | tup l =>
      simp only [eqOk] at h
      obtain ⟨h1, h2⟩ := all l h.2
      rw [D.py, PyData.canLay0, PyData.depth]
      exact ⟨h1, by omega⟩
    | lst l =>
      simp only [eqOk] at h
      obtain ⟨h1, h2⟩ := all l h.2
      rw [D.py, PyData.canLay0, PyData.depth]
      exact ⟨h1, by omega⟩
    | dic k l => simp [eqOk] at h
    | ins c k l => simp [eqOk] at h
    | key k => simp [eqOk] at h
    | dcT k l => simp [eqOk] at h
theorem eqOk_shaped {n : Nat} {d : D} (h : eqOk n d) (hn : n ≤ 64) : SeqAt.shaped d.py = true := by
  obtain ⟨h1, h2⟩ := eqOk_lay h
  unfold SeqAt.shaped
  rw [h1, decide_eq_true (by omega)]
  rfl
theorem dNe_refl {n : Nat} {d : D} (h : eqOk n d) (hn : n ≤ 64) : dNe d d = .ok (.bl false) := by
  have s := eqOk_shaped h hn
  unfold dNe
  rw [if_pos ⟨s, s⟩, SeqAt.eqv_refl _ (eqOk_lay h).1]
  rfl
theorem dNe_nil {n : Nat} {l : List D} (h : eqOk n (.lst l)) (hn : n ≤ 64) : dNe (.lst l) (.lst []) = .ok (.bl (!l.isEmpty)) := by
  have s := eqOk_shaped h hn
  have s2 : SeqAt.shaped (D.lst []).py = true := by decide +kernel
  unfold dNe
  rw [if_pos ⟨s, s2⟩]
  cases l with
  | nil => simp [PyData.eqv, PyData.eqvAll]
  | cons x l => simp [PyData.eqv, PyData.eqvAll]
def frD (q : Rat) : D := .tup [.int q.num, .int (q.den : Int)]
def RB (a : Nat) (q : Rat) : Prop := q.num.natAbs < 2 ^ a ∧ q.den < 2 ^ a
theorem red_rat {n d : Int} (h : d ≠ 0) : redN n d = (Rat.divInt n d).num ∧ redD n d = ((Rat.divInt n d).den : Int) := by
  have sg : sgnI d = Int.sign d := by
    unfold sgnI
    by_cases h0 : 0 < d
    · rw [if_pos h0, Int.sign_eq_one_of_pos h0]
    · rw [if_neg h0, Int.sign_eq_neg_one_of_neg (by omega)]
  have ab : absI d = (d.natAbs : Int) := by unfold absI; split <;> omega
  constructor
  · rw [Rat.num_divInt, redN, sg, gcdI, Int.gcd_comm]
  · rw [Rat.den_divInt, if_neg h, redD, sgn_mul_abs, ab, gcdI, Int.gcd_comm, Int.natCast_ediv]
theorem rb_div {n d : Int} {a : Nat} (hn : n.natAbs < 2 ^ a) (hd : d.natAbs < 2 ^ a) (h : d ≠ 0) : RB a (Rat.divInt n d) := by
  obtain ⟨h1, h2⟩ := red_rat (n := n) h
  have l1 := redN_le (n := n) h
  have l2 := redD_le (n := n) h
  have l3 := redD_pos (n := n) h
  rw [h1] at l1
  rw [h2] at l2 l3
  constructor
  · have : (Rat.divInt n d).num.natAbs ≤ n.natAbs := by
      unfold absI at l1; split at l1 <;> split at l1 <;> omega
    omega
  · have : (Rat.divInt n d).den ≤ d.natAbs := by
      unfold absI at l2; split at l2 <;> omega
    omega
theorem reduce_rat {n d : Int} {a : Nat} (h : d ≠ 0) (n1 : n.natAbs < 2 ^ a) (d1 : d.natAbs < 2 ^ a) (ha : a ≤ 8990) : m__law_reduce [.int n, .int d] = .ok (frD (Rat.divInt n d)) := by
  have a0 : 0 ≤ absI n := by unfold absI; split <;> omega
  have b0 : 0 ≤ absI d := by unfold absI; split <;> omega
  have ap : 0 < a := by
    rcases Nat.eq_zero_or_pos a with rfl | q
    · simp at d1; omega
    · exact q
  have hl := reduce_loop (.sh (.int n)) (.sh (.int d)) .un g0 ((absI d).natAbs + 1) (absI n) (absI d) a0 b0 (by omega)
  rw [gcd_abs] at hl
  have gp := gcdI_pos (n := n) h
  have gl := gcdI_le (n := n) h
  have s1 : (sgnI d).natAbs < 2 ^ 1 := by unfold sgnI; split <;> decide
  have hs : ∀ x : Int, x.natAbs < 2 ^ a → dMul (.int (sgnI d)) (.int x) = .ok (.int (sgnI d * x)) := fun x hx => by
    rw [dMul_ii, if_pos (wide_mul s1 hx (by omega) ap (by omega))]
  have hg : ∀ x : Int, dFDiv (.int x) (.int (gcdI n d)) = .ok (.int (x / gcdI n d)) := fun x => by
    rw [dFDiv_ii, if_pos (wide_div (b := a) gp (by unfold absI at gl; split at gl <;> omega) ap (by omega))]
  have sg : ∀ g, (eIf (eTest (eOp dGt (eVar 1) (eC (.int 0)))) (eC (.int 1)) (eUn dNeg (eC (.int 1)))) [.sh (.int n), .sh (.int d), .sh (.int (gcdI n d)), .sh (.int 0), .un] g = .ok (.int (sgnI d), g) := fun g => by
    simp [sgnI]
    split <;> rfl
  have fr : frD (Rat.divInt n d) = .tup [.int (redN n d), .int (redD n d)] := by
    obtain ⟨h1, h2⟩ := red_rat (n := n) h
    unfold frD
    rw [h1, h2]
  rw [fr, m__law_reduce, runD, if_pos (by rfl)]
  show resD (b__law_reduce [.sh (.int n), .sh (.int d), .un, .un, .un] g0) = _
  unfold b__law_reduce
  rw [sSeq_]
  simp only [sPar_, aCons_, aNil_, eCall_, eVar_, bind_ok, pureG_ok', List.getElem?_cons_zero, List.getElem?_cons_succ, dAbs_, parK_, List.set_cons_zero, List.set_cons_succ, seqK_nx]
  rw [sSeq_, sWhile]
  show resD ((whileL _ _ ((absI d).natAbs + 1) [.sh (.int n), .sh (.int d), .sh (.int (absI n)), .sh (.int (absI d)), .un] g0).bind _) = _
  rw [hl]
  simp only [bind_ok, seqK_nx]
  rw [sSeq_, sAsg_, sg]
  simp [hs n n1, hs d d1, hg, redN, redD]
theorem add_div (p q : Rat) : Rat.divInt (p.num * q.den + q.num * p.den) (p.den * q.den) = p + q := by
  rw [Rat.add_def', ← Rat.divInt_ofNat, Int.natCast_mul]
theorem sub_div (p q : Rat) : Rat.divInt (p.num * q.den - q.num * p.den) (p.den * q.den) = p - q := by
  rw [Rat.sub_def', ← Rat.divInt_ofNat, Int.natCast_mul]
theorem mul_div (p q : Rat) : Rat.divInt (p.num * q.num) (p.den * q.den) = p * q := by
  rw [Rat.mul_def', ← Rat.divInt_ofNat, Int.natCast_mul]
theorem den_ne (p q : Rat) : (p.den : Int) * (q.den : Int) ≠ 0 := by
  have h1 := p.den_nz
  have h2 := q.den_nz
  exact Int.mul_ne_zero (by omega) (by omega)
theorem natAbs_lt_mul {i j : Int} {a b : Nat} (h1 : i.natAbs < 2 ^ a) (h2 : j.natAbs < 2 ^ b) : (i * j).natAbs < 2 ^ (a + b) := wide_lt h1 h2
theorem natAbs_add_lt {i j : Int} {a : Nat} (h1 : i.natAbs < 2 ^ a) (h2 : j.natAbs < 2 ^ a) : (i + j).natAbs < 2 ^ (a + 1) := by
  rw [Nat.pow_succ]; omega
theorem lt_up {n a b : Nat} (h : n < 2 ^ a) (hab : a ≤ b) : n < 2 ^ b := Nat.lt_of_lt_of_le h (Nat.pow_le_pow_right (by decide) hab)
theorem RB.up {a b : Nat} {q : Rat} (h : RB a q) (hab : a ≤ b) : RB b q := ⟨lt_up h.1 hab, lt_up h.2 hab⟩
theorem RB.pos {a : Nat} {q : Rat} (h : RB a q) : 0 < a := by
  rcases Nat.eq_zero_or_pos a with rfl | z
  · have := h.2
    have := q.den_nz
    simp at *; omega
  · exact z
theorem dMul_b {i j : Int} {a b : Nat} (h1 : i.natAbs < 2 ^ a) (h2 : j.natAbs < 2 ^ b) (ha : 0 < a) (hb : 0 < b) (h : a + b ≤ 100000) : dMul (.int i) (.int j) = .ok (.int (i * j)) := by
  rw [dMul_ii, if_pos (wide_mul h1 h2 ha hb (by omega))]
section
variable {p q : Rat} {a b : Nat} (hp : RB a p) (hq : RB b q)
include hp hq
theorem rb_add : (p.num * q.den + q.num * p.den).natAbs < 2 ^ (a + b + 1) ∧ ((p.den : Int) * q.den).natAbs < 2 ^ (a + b + 1) := by
  have h1 : (p.num * q.den).natAbs < 2 ^ (a + b) := natAbs_lt_mul hp.1 (by simpa using hq.2)
  have h2 : (q.num * p.den).natAbs < 2 ^ (a + b) := by rw [Nat.add_comm]; exact natAbs_lt_mul hq.1 (by simpa using hp.2)
  have h3 : ((p.den : Int) * q.den).natAbs < 2 ^ (a + b) := natAbs_lt_mul (by simpa using hp.2) (by simpa using hq.2)
  exact ⟨natAbs_add_lt h1 h2, lt_up h3 (by omega)⟩
theorem rb_sum : RB (a + b + 1) (p + q) := by
  obtain ⟨h1, h2⟩ := rb_add hp hq
  rw [← add_div]
  exact rb_div h1 h2 (den_ne p q)
end
theorem eqOk_fr {n : Nat} (q : Rat) : eqOk (n + 2) (frD q) := by simp [eqOk, frD]
theorem eqOk_frs {n : Nat} {qs : List Rat} (h : qs.length ≤ 1000) : eqOk (n + 3) (.lst (qs.map frD)) := by
  rw [eqOk]
  refine ⟨by simpa using h, fun x hx => ?_⟩
  obtain ⟨q, _, rfl⟩ := List.mem_map.mp hx
  exact eqOk_fr q
theorem frD_inj {p q : Rat} : PyData.eqv (frD p).py (frD q).py = decide (p = q) := by
  have : decide (p = q) = (p.num == q.num && (p.den : Int) == (q.den : Int)) := by
    rw [Bool.eq_iff_iff]
    simp only [decide_eq_true_eq, Bool.and_eq_true, beq_iff_eq]
    exact ⟨fun e => by rw [e]; exact ⟨rfl, rfl⟩, fun ⟨h1, h2⟩ => Rat.ext h1 (by omega)⟩
  rw [this]
  simp [frD, PyData.eqv, PyData.eqvAll]
def sumR (s : Rat) (qs : List Rat) : Rat := qs.foldl (· + ·) s
theorem rb_sumR {a : Nat} : ∀ {qs : List Rat} {s : Rat} {c : Nat}, RB c s → (∀ q, q ∈ qs → RB a q) → RB (c + (a + 1) * qs.length) (sumR s qs)
  | [], s, c, h, _ => by simpa [sumR] using h
  | q :: qs, s, c, h, hq => by
    have h1 := rb_sum h (hq q List.mem_cons_self)
    have h2 := rb_sumR h1 fun p hp => hq p (List.mem_cons_of_mem _ hp)
    have e : c + a + 1 + (a + 1) * qs.length = c + (a + 1) * (q :: qs).length := by
      rw [List.length_cons, Nat.mul_succ]; omega
    rw [e] at h2
    exact h2
theorem gcd_loop (g : Rng) : ∀ (n : Nat) (a b : Int), 0 ≤ a → 0 ≤ b → b.natAbs < n →
    whileL (eTest (eOp dNe (eVar 1) (eC (.int 0)))) (sPar 0 1 (aCons (eVar 1) (aCons (eOp dMod (eVar 0) (eVar 1)) aNil))) n [.sh (.int a), .sh (.int b)] g = .ok (.nx [.sh (.int (gcdI a b)), .sh (.int 0)] g)
  | 0, a, b, _, _, h => by omega
  | n + 1, a, b, ha, hb, h => by
    rw [whileL]
    by_cases h0 : b = 0
    · subst h0
      simp [gcdI]
      omega
    · have hp : 0 < b := by omega
      simp [h0, dMod_pos hp]
      rw [gcd_loop g n b (a % b) hb (Int.emod_nonneg _ h0) (by have := Int.emod_lt_of_pos a hp; have := Int.emod_nonneg a h0; omega)]
      simp [gcdI, emod_gcd]
theorem gcd_ok {a b : Int} (ha : 0 ≤ a) (hb : 0 ≤ b) : m_gcd [.int a, .int b] = .ok (.int (gcdI a b)) := by
  rw [m_gcd, runD, if_pos (by rfl)]
  show resD (b_gcd [.sh (.int a), .sh (.int b)] g0) = _
  unfold b_gcd
  rw [sSeq_, sWhile]
  show resD ((whileL _ _ (b.natAbs + 1) [.sh (.int a), .sh (.int b)] g0).bind _) = _
  rw [gcd_loop g0 (b.natAbs + 1) a b ha hb (by omega)]
  simp
theorem fraction_ok {n d : Int} {a : Nat} (h : d ≠ 0) (n1 : n.natAbs < 2 ^ a) (d1 : d.natAbs < 2 ^ a) (ha : a ≤ 8990) : m_fraction [.int n, .int d] = .ok (frD (Rat.divInt n d)) := by
  have a0 : 0 ≤ absI n := by unfold absI; split <;> omega
  have b0 : 0 ≤ absI d := by unfold absI; split <;> omega
  have ap : 0 < a := by
    rcases Nat.eq_zero_or_pos a with rfl | q
    · simp at d1; omega
    · exact q
  have gp := gcdI_pos (n := n) h
  have gl := gcdI_le (n := n) h
  have s1 : (sgnI d).natAbs < 2 ^ 1 := by unfold sgnI; split <;> decide
  have hs : ∀ x : Int, x.natAbs < 2 ^ a → dMul (.int (sgnI d)) (.int x) = .ok (.int (sgnI d * x)) := fun x hx => by
    rw [dMul_ii, if_pos (wide_mul s1 hx (by omega) ap (by omega))]
  have hg : ∀ x : Int, dFDiv (.int x) (.int (gcdI n d)) = .ok (.int (x / gcdI n d)) := fun x => by
    rw [dFDiv_ii, if_pos (wide_div (b := a) gp (by unfold absI at gl; split at gl <;> omega) ap (by omega))]
  have hgcd := gcd_ok a0 b0
  rw [gcd_abs] at hgcd
  unfold absI at hgcd
  have sg : ∀ g, (eIf (eTest (eOp dGt (eVar 1) (eC (.int 0)))) (eC (.int 1)) (eUn dNeg (eC (.int 1)))) [.sh (.int n), .sh (.int d), .sh (.int (gcdI n d)), .un] g = .ok (.int (sgnI d), g) := fun g => by
    simp [sgnI]
    split <;> rfl
  have fr : frD (Rat.divInt n d) = .tup [.int (redN n d), .int (redD n d)] := by
    obtain ⟨h1, h2⟩ := red_rat (n := n) h
    unfold frD
    rw [h1, h2]
  rw [fr, m_fraction, runD, if_pos (by rfl)]
  show resD (b_fraction [.sh (.int n), .sh (.int d), .un, .un] g0) = _
  unfold b_fraction
  rw [sSeq_]
  simp only [sIf_, eTest_, eOp_, eVar_, eC_, bind_ok, pureG_ok', List.getElem?_cons_zero, List.getElem?_cons_succ, dEq_ii, toB_, decide_eq_true_eq, h, if_false, sNx_, seqK_nx]
  rw [sSeq_]
  simp only [sAsg_, aCons_, aNil_, eCall_, eVar_, bind_ok, pureG_ok', List.getElem?_cons_zero, List.getElem?_cons_succ, dAbs_, hgcd, List.set_cons_zero, List.set_cons_succ, seqK_nx]
  rw [sSeq_, sAsg_, sg]
  simp [hs n n1, hs d d1, hg, redN, redD]
section
variable {p q : Rat} {a b : Nat} (hp : RB a p) (hq : RB b q)
include hp hq
theorem rb_sub : (p.num * q.den - q.num * p.den).natAbs < 2 ^ (a + b + 1) ∧ ((p.den : Int) * q.den).natAbs < 2 ^ (a + b + 1) := by
  have h1 : (p.num * q.den).natAbs < 2 ^ (a + b) := natAbs_lt_mul hp.1 (by simpa using hq.2)
  have h2 : (q.num * p.den).natAbs < 2 ^ (a + b) := by rw [Nat.add_comm]; exact natAbs_lt_mul hq.1 (by simpa using hp.2)
  have h3 : ((p.den : Int) * q.den).natAbs < 2 ^ (a + b) := natAbs_lt_mul (by simpa using hp.2) (by simpa using hq.2)
  refine ⟨?_, lt_up h3 (by omega)⟩
  rw [Int.sub_eq_add_neg]
  exact natAbs_add_lt h1 (by simpa using h2)
theorem rb_mul : (p.num * q.num).natAbs < 2 ^ (a + b) ∧ ((p.den : Int) * q.den).natAbs < 2 ^ (a + b) :=
  ⟨natAbs_lt_mul hp.1 hq.1, natAbs_lt_mul (by simpa using hp.2) (by simpa using hq.2)⟩
theorem rb_prod : RB (a + b) (p * q) := by
  obtain ⟨h1, h2⟩ := rb_mul hp hq
  rw [← mul_div]
  exact rb_div h1 h2 (den_ne p q)
end
theorem psub_ok {p q : Rat} {a b : Nat} (hp : RB a p) (hq : RB b q) (h : a + b + 1 ≤ 8990) : m_subtract [frD p, frD q] = .ok (frD (p - q)) := by
  have e1 : dMul (.int p.num) (.int (q.den : Int)) = .ok (.int (p.num * (q.den : Int))) := dMul_b (a := a) (b := b) hp.1 (by simpa using hq.2) hp.pos hq.pos (by omega)
  have e2 : dMul (.int q.num) (.int (p.den : Int)) = .ok (.int (q.num * (p.den : Int))) := dMul_b (a := b) (b := a) hq.1 (by simpa using hp.2) hq.pos hp.pos (by omega)
  have e3 : dMul (.int (p.den : Int)) (.int (q.den : Int)) = .ok (.int ((p.den : Int) * (q.den : Int))) := dMul_b (a := a) (b := b) (by simpa using hp.2) (by simpa using hq.2) hp.pos hq.pos (by omega)
  rw [m_subtract, runD, if_pos (by rfl)]
  show resD (b_subtract [.sh (frD p), .sh (frD q)] g0) = _
  unfold b_subtract
  simp [frD, atI, ixN, e1, e2, e3]
  rw [fraction_ok (den_ne p q) (rb_sub hp hq).1 (rb_sub hp hq).2 (by omega), sub_div]
  rfl
theorem mul_ok {p q : Rat} {a b : Nat} (hp : RB a p) (hq : RB b q) (h : a + b + 1 ≤ 8990) : m_multiply [frD p, frD q] = .ok (frD (p * q)) := by
  have e1 : dMul (.int p.num) (.int q.num) = .ok (.int (p.num * q.num)) := dMul_b (a := a) (b := b) hp.1 hq.1 hp.pos hq.pos (by omega)
  have e2 : dMul (.int (p.den : Int)) (.int (q.den : Int)) = .ok (.int ((p.den : Int) * (q.den : Int))) := dMul_b (a := a) (b := b) (by simpa using hp.2) (by simpa using hq.2) hp.pos hq.pos (by omega)
  rw [m_multiply, runD, if_pos (by rfl)]
  show resD (b_multiply [.sh (frD p), .sh (frD q)] g0) = _
  unfold b_multiply
  simp [frD, atI, ixN, e1, e2]
  rw [fraction_ok (den_ne p q) (rb_mul hp hq).1 (rb_mul hp hq).2 (by omega), mul_div]
  rfl
theorem div_ok {p q : Rat} {a b : Nat} (hp : RB a p) (hq : RB b q) (h : a + b + 1 ≤ 8990) (hz : q.num ≠ 0) : m_divide [frD p, frD q] = .ok (frD (Rat.divInt (p.num * q.den) (p.den * q.num))) := by
  have e1 : dMul (.int p.num) (.int (q.den : Int)) = .ok (.int (p.num * (q.den : Int))) := dMul_b (a := a) (b := b) hp.1 (by simpa using hq.2) hp.pos hq.pos (by omega)
  have e2 : dMul (.int (p.den : Int)) (.int q.num) = .ok (.int ((p.den : Int) * q.num)) := dMul_b (a := a) (b := b) (by simpa using hp.2) hq.1 hp.pos hq.pos (by omega)
  rw [m_divide, runD, if_pos (by rfl)]
  show resD (b_divide [.sh (frD p), .sh (frD q)] g0) = _
  unfold b_divide
  simp [frD, atI, ixN, e1, e2]
  rw [fraction_ok (a := a + b) (Int.mul_ne_zero (by have := p.den_nz; omega) hz) (natAbs_lt_mul hp.1 (by simpa using hq.2)) (natAbs_lt_mul (by simpa using hp.2) hq.1) (by omega)]
  rfl
theorem law_add_ok {p q : Rat} {a b : Nat} (hp : RB a p) (hq : RB b q) (h : a + b + 1 ≤ 8990) : m__law_add [frD p, frD q] = .ok (frD (p + q)) := by
  have e1 : dMul (.int p.num) (.int (q.den : Int)) = .ok (.int (p.num * q.den)) := dMul_b hp.1 (by simpa using hq.2) hp.pos hq.pos (by omega)
  have e2 : dMul (.int q.num) (.int (p.den : Int)) = .ok (.int (q.num * p.den)) := dMul_b hq.1 (by simpa using hp.2) hq.pos hp.pos (by omega)
  have e3 : dMul (.int (p.den : Int)) (.int (q.den : Int)) = .ok (.int (p.den * q.den)) := dMul_b (a := a) (b := b) (by simpa using hp.2) (by simpa using hq.2) hp.pos hq.pos (by omega)
  obtain ⟨h1, h2⟩ := rb_add hp hq
  rw [m__law_add, runD, if_pos (by rfl)]
  show resD (b__law_add [.sh (frD p), .sh (frD q)] g0) = _
  unfold b__law_add
  simp [frD, atI, ixN, e1, e2, e3]
  rw [reduce_rat (den_ne p q) h1 h2 (by omega), add_div]
  rfl
theorem law_mul_ok {p q : Rat} {a b : Nat} (hp : RB a p) (hq : RB b q) (h : a + b + 1 ≤ 8990) : m__law_multiply [frD p, frD q] = .ok (frD (p * q)) := by
  have e1 : dMul (.int p.num) (.int q.num) = .ok (.int (p.num * q.num)) := dMul_b (a := a) (b := b) hp.1 hq.1 hp.pos hq.pos (by omega)
  have e2 : dMul (.int (p.den : Int)) (.int (q.den : Int)) = .ok (.int ((p.den : Int) * (q.den : Int))) := dMul_b (a := a) (b := b) (by simpa using hp.2) (by simpa using hq.2) hp.pos hq.pos (by omega)
  rw [m__law_multiply, runD, if_pos (by rfl)]
  show resD (b__law_multiply [.sh (frD p), .sh (frD q)] g0) = _
  unfold b__law_multiply
  simp [frD, atI, ixN, e1, e2]
  rw [reduce_rat (den_ne p q) (rb_mul hp hq).1 (rb_mul hp hq).2 (by omega), mul_div]
  rfl
theorem lsum_loop {a : Nat} (s0 : Slot) (g : Rng) : ∀ (qs : List Rat) (s : Rat) (c : Nat) (s3 : Slot), RB c s → (∀ q, q ∈ qs → RB a q) → c + (a + 1) * qs.length + 1 ≤ 8990 →
    ∃ s3', forL (gNm 2) (sAsg 1 (eCall m__law_add (aCons (eVar 1) (aCons (eVar 2) aNil)))) (qs.map frD) [s0, .sh (frD s), s3] g = .ok (.nx [s0, .sh (frD (sumR s qs)), s3'] g)
  | [], s, c, s3, _, _, _ => ⟨s3, by simp [forL, sumR]⟩
  | q :: qs, s, c, s3, h, hq, hb => by
    have hl : (a + 1) * (q :: qs).length = (a + 1) * qs.length + (a + 1) := by rw [List.length_cons, Nat.mul_succ]
    have e := law_add_ok h (hq q List.mem_cons_self) (by omega)
    obtain ⟨s3', ih⟩ := lsum_loop s0 g qs (s + q) (c + a + 1) (.sh (frD q)) (rb_sum h (hq q List.mem_cons_self)) (fun p hp => hq p (List.mem_cons_of_mem _ hp)) (by omega)
    refine ⟨s3', ?_⟩
    rw [List.map_cons, forL]
    simp [e]
    rw [ih]
    simp [sumR]
theorem frD_zero : D.tup [.int 0, .int 1] = frD 0 := rfl
theorem rb_zero : RB 1 0 := ⟨by decide, by decide⟩
theorem lsum_ok {a : Nat} {qs : List Rat} (hq : ∀ q, q ∈ qs → RB a q) (hb : (a + 1) * qs.length + 2 ≤ 8990) : m__law_sum [.lst (qs.map frD)] = .ok (frD (sumR 0 qs)) := by
  rw [m__law_sum, runD, if_pos (by rfl)]
  show resD (b__law_sum [.sh (.lst (qs.map frD)), .un, .un] g0) = _
  unfold b__law_sum
  obtain ⟨s3, e⟩ := lsum_loop (.sh (.lst (qs.map frD))) g0 qs 0 1 .un rb_zero hq (by omega)
  simp [frD_zero, e]
def enumD (i : Nat) (l : List D) : List D := (l.mapIdx fun j d => .tup [.int ((i + j : Nat) : Int), d])
theorem enumD_cons (i : Nat) (d : D) (l : List D) : enumD i (d :: l) = .tup [.int (i : Int), d] :: enumD (i + 1) l := by
  unfold enumD
  rw [List.mapIdx_cons]
  congr 1
  apply List.ext_getElem?
  intro n
  simp [List.getElem?_mapIdx]
  cases l[n]? with
  | none => rfl
  | some x => simp; omega
theorem borrow_one {pre post : En} {l : List D} {i : Nat} (h : pre.length = i) : borrow [i] (pre ++ .ow l :: post) = pre ++ .sh (.lst l) :: post := by
  apply List.ext_getElem?
  intro j
  unfold borrow
  rw [List.getElem?_mapIdx]
  by_cases c : j = i
  · subst c
    rw [List.getElem?_append_right (by omega), List.getElem?_append_right (by omega), h, Nat.sub_self]
    simp
  · have e : (pre ++ Slot.ow l :: post)[j]? = (pre ++ Slot.sh (.lst l) :: post)[j]? := by
      by_cases c2 : j < i
      · rw [List.getElem?_append_left (by omega), List.getElem?_append_left (by omega)]
      · rw [List.getElem?_append_right (by omega), List.getElem?_append_right (by omega)]
        obtain ⟨k, hk⟩ : ∃ k, j - pre.length = k + 1 := ⟨j - pre.length - 1, by omega⟩
        rw [hk, List.getElem?_cons_succ, List.getElem?_cons_succ]
    rw [e]
    cases (pre ++ Slot.sh (.lst l) :: post)[j]? with
    | none => rfl
    | some s => cases s <;> simp [c]
theorem dEq_lit {a b : Str} {c : Bool} (h : (PyData.strOk a && PyData.strOk b && ((a == b) == c)) = true) : dEq (.str a) (.str b) = .ok (.bl c) := by
  obtain ⟨h1, h2⟩ := Bool.and_eq_true_iff.mp h
  obtain ⟨h3, h4⟩ := Bool.and_eq_true_iff.mp h1
  rw [dEq_ss h3 h4, eq_of_beq h2]
def CI (N B : Nat) (q : Rat) : Prop := ∃ x : Int, q * ((N : Int) : Rat) = (x : Rat) ∧ x.natAbs ≤ B
theorem CI.up {N B M C k : Nat} {q : Rat} (h : CI N B q) (hM : M = N * k) (hC : B * k ≤ C) : CI M C q := by
  subst hM
  obtain ⟨x, hx, hb⟩ := h
  refine ⟨x * (k : Int), ?_, ?_⟩
  · rw [Int.natCast_mul, Rat.intCast_mul, ← Rat.mul_assoc, hx, Rat.intCast_mul]
  · rw [Int.natAbs_mul, Int.natAbs_natCast]
    exact Nat.le_trans (Nat.mul_le_mul_right k hb) hC
theorem CI.mono {N B C : Nat} {q : Rat} (h : CI N B q) (hC : B ≤ C) : CI N C q := let ⟨x, hx, hb⟩ := h; ⟨x, hx, Nat.le_trans hb hC⟩
theorem CI.add {N B C : Nat} {p q : Rat} (hp : CI N B p) (hq : CI N C q) : CI N (B + C) (p + q) := by
  obtain ⟨x, hx, h1⟩ := hp
  obtain ⟨y, hy, h2⟩ := hq
  exact ⟨x + y, by rw [Rat.add_mul, hx, hy, Rat.intCast_add], by omega⟩
theorem CI.mul {N M B C : Nat} {p q : Rat} (hp : CI N B p) (hq : CI M C q) : CI (N * M) (B * C) (p * q) := by
  obtain ⟨x, hx, h1⟩ := hp
  obtain ⟨y, hy, h2⟩ := hq
  refine ⟨x * y, ?_, ?_⟩
  · rw [Int.natCast_mul, Rat.intCast_mul, Rat.intCast_mul, ← hx, ← hy]; grind
  · rw [Int.natAbs_mul]; exact Nat.mul_le_mul h1 h2
theorem CI.zero (N B : Nat) : CI N B 0 := ⟨0, by rw [Rat.zero_mul]; rfl, Nat.zero_le _⟩
theorem CI.rb {N B a : Nat} {q : Rat} (h : CI N B q) (hN : 0 < N) (h1 : N < 2 ^ a) (h2 : B < 2 ^ a) : RB a q := by
  obtain ⟨x, hx, hb⟩ := h
  have n0 : ((N : Int) : Rat) ≠ 0 := fun z => by
    have : (N : Int) = 0 := by exact_mod_cast z
    omega
  have e : q = Rat.divInt x N := by
    rw [Rat.divInt_eq_div, ← hx, Rat.div_def, Rat.mul_assoc, Rat.mul_inv_cancel _ n0, Rat.mul_one]
  rw [e]
  exact rb_div (by omega) (by simp; omega) (by omega)
def RA (q : Rat) : Prop := RB 5 q ∧ CI 12 192 q
def RR (q : Rat) : Prop := RB 20 q ∧ CI 144 39168 q
def RT (q : Rat) : Prop := RB 200 q ∧ CI 1728 37601280 q
theorem RA.rr {q : Rat} (h : RA q) : RR q := ⟨h.1.up (by decide), h.2.up (k := 12) rfl (by decide)⟩
theorem RA.rt {q : Rat} (h : RA q) : RT q := ⟨h.1.up (by decide), h.2.up (k := 144) rfl (by decide)⟩
theorem ra_zero : RA 0 := ⟨rb_zero.up (by decide), .zero _ _⟩
theorem ci_div {n d : Int} (h1 : n.natAbs ≤ 16) (h2 : 0 < d) (h3 : d ≤ 4) : CI 12 192 (Rat.divInt n d) := by
  have d0 : ((d : Int) : Rat) ≠ 0 := fun z => by
    have : d = 0 := by exact_mod_cast z
    omega
  have key : ∀ k : Int, d * k = 12 → k.natAbs ≤ 12 → CI 12 192 (Rat.divInt n d) := fun k hk hb => by
    refine ⟨n * k, ?_, ?_⟩
    · rw [Rat.divInt_eq_div, show (((12 : Nat) : Int) : Rat) = ((d * k : Int) : Rat) by rw [hk]; rfl, Rat.intCast_mul, Rat.intCast_mul, Rat.div_def, ← Rat.mul_assoc, Rat.mul_assoc (n : Rat), Rat.inv_mul_cancel _ d0, Rat.mul_one]
    · rw [Int.natAbs_mul]; have := Nat.mul_le_mul h1 hb; omega
  have : d = 1 ∨ d = 2 ∨ d = 3 ∨ d = 4 := by omega
  rcases this with rfl | rfl | rfl | rfl
  · exact key 12 (by decide) (by decide)
  · exact key 6 (by decide) (by decide)
  · exact key 4 (by decide) (by decide)
  · exact key 3 (by decide) (by decide)
theorem ci_sum : ∀ {qs : List Rat} {s : Rat} {N B C : Nat}, CI N C s → (∀ q, q ∈ qs → CI N B q) → CI N (C + B * qs.length) (sumR s qs)
  | [], s, N, B, C, h, _ => by simpa [sumR] using h
  | q :: qs, s, N, B, C, h, hq => by
    have := ci_sum (h.add (hq q List.mem_cons_self)) fun p hp => hq p (List.mem_cons_of_mem _ hp)
    have e : C + B * (q :: qs).length = C + B + B * qs.length := by rw [List.length_cons, Nat.mul_succ]; omega
    rw [e]
    simpa [sumR] using this
def vecD (v : List Rat) : D := .lst (v.map frD)
def matD (M : List (List Rat)) : D := .lst (M.map vecD)
structure Lin (M : List (List Rat)) (ts : List Rat) : Prop where
  m1 : 1 ≤ M.length
  m5 : M.length ≤ 5
  w : ∃ w, 1 ≤ w ∧ w ≤ 5 ∧ ∀ r, r ∈ M → r.length = w
  t : ts.length = M.length
  rb : ∀ r, r ∈ M → ∀ q, q ∈ r → RR q
  tb : ∀ q, q ∈ ts → RT q
theorem lcL_sm {tf : TgF} {fe : ME} {e : En} {χ : List Rat → D} {P : List Rat → Prop} : ∀ {ds : List D} {g : Rng}, g.Ok → (∀ d, d ∈ ds → ∃ e1, tf d e = some e1 ∧ ∀ g, g.Ok → WG (fe e1 g) (fun x g' => g'.Ok ∧ ∃ u, x = χ u ∧ P u)) →
    WG (lcL tf mTrue fe ds e g) (fun l g' => g'.Ok ∧ ∃ us : List (List Rat), l = us.map χ ∧ us.length = ds.length ∧ ∀ u, u ∈ us → P u)
  | [], g, hg, _ => by rw [lcL, WG_ok]; exact ⟨hg, [], rfl, rfl, fun p h => by simp at h⟩
  | t :: ts, g, hg, h => by
    obtain ⟨e1, h1, h2⟩ := h t List.mem_cons_self
    rw [lcL]
    simp only [h1, mTrue_, bind_ok, if_true, WG_bind]
    refine (h2 g hg).mono fun x g1 ⟨hg1, u, ex, pu⟩ => ?_
    refine (lcL_sm hg1 fun z hz => h z (List.mem_cons_of_mem _ hz)).mono fun l g2 ⟨hg2, us, d1, d2, d3⟩ => ?_
    rw [WG_ok]
    refine ⟨hg2, u :: us, by rw [ex, d1]; rfl, by rw [List.length_cons, List.length_cons, d2], fun p hp => ?_⟩
    rcases List.mem_cons.mp hp with rfl | hp
    · exact pu
    · exact d3 p hp
theorem lcL_q {tf : TgF} {fe : ME} {e : En} {P : Rat → Prop} : ∀ {ds : List D} {g : Rng}, g.Ok → (∀ d, d ∈ ds → ∃ e1, tf d e = some e1 ∧ ∀ g, g.Ok → WG (fe e1 g) (fun x g' => g'.Ok ∧ ∃ q, x = frD q ∧ P q)) →
    WG (lcL tf mTrue fe ds e g) (fun l g' => g'.Ok ∧ ∃ qs : List Rat, l = qs.map frD ∧ qs.length = ds.length ∧ ∀ q, q ∈ qs → P q)
  | [], g, hg, _ => by rw [lcL, WG_ok]; exact ⟨hg, [], rfl, rfl, fun p h => by simp at h⟩
  | t :: ts, g, hg, h => by
    obtain ⟨e1, h1, h2⟩ := h t List.mem_cons_self
    rw [lcL]
    simp only [h1, mTrue_, bind_ok, if_true, WG_bind]
    refine (h2 g hg).mono fun x g1 ⟨hg1, u, ex, pu⟩ => ?_
    refine (lcL_q hg1 fun z hz => h z (List.mem_cons_of_mem _ hz)).mono fun l g2 ⟨hg2, us, d1, d2, d3⟩ => ?_
    rw [WG_ok]
    refine ⟨hg2, u :: us, by rw [ex, d1]; rfl, by rw [List.length_cons, List.length_cons, d2], fun p hp => ?_⟩
    rcases List.mem_cons.mp hp with rfl | hp
    · exact pu
    · exact d3 p hp
theorem zipQ : ∀ (x y : List Rat), ((x.map frD).zip (y.map frD)).map (fun q => D.tup [q.1, q.2]) = (x.zip y).map fun p => .tup [frD p.1, frD p.2]
  | [], y => by simp
  | _ :: _, [] => by simp
  | a :: x, b :: y => by simp [zipQ x y]
theorem lc_prod {tf : TgF} {fe : ME} {e : En} {g : Rng} {x y : List Rat} (h : ∀ p, p ∈ x.zip y → ∃ e1, tf (.tup [frD p.1, frD p.2]) e = some e1 ∧ fe e1 g = .ok (frD (p.1 * p.2), g)) : lcL tf mTrue fe (((x.map frD).zip (y.map frD)).map fun q => D.tup [q.1, q.2]) e g = .ok (((x.zip y).map fun p => p.1 * p.2).map frD, g) := by
  rw [zipQ, List.map_map]
  exact lcL_mapT h
def dotR (x y : List Rat) : Rat := sumR 0 ((x.zip y).map fun p => p.1 * p.2)
theorem rb_dot {a b : Nat} {x y : List Rat} (hx : ∀ q, q ∈ x → RB a q) (hy : ∀ q, q ∈ y → RB b q) : RB (1 + (a + b + 1) * (x.zip y).length) (dotR x y) := by
  have := rb_sumR (a := a + b) (qs := (x.zip y).map fun p => p.1 * p.2) rb_zero fun q hq => by
    obtain ⟨p, hp, rfl⟩ := List.mem_map.mp hq
    exact rb_prod (hx _ (List.of_mem_zip hp).1) (hy _ (List.of_mem_zip hp).2)
  rwa [List.length_map] at this
theorem smallQ_then {g : Rng} {Q : D → Rng → Prop} (hg : g.Ok) (k : ∀ q g', g'.Ok → RA q → Q (frD q) g') : WG (m__law_small [] g) Q := by
  refine WG_runG (by rfl) ?_
  show WV (b__law_small [.rng] g) _
  unfold b__law_small
  try simp
  refine draw_then hg (by decide) (by decide) fun z g1 h1 z0 z1 => ?_
  try simp
  refine choice_then h1 (by simp) (by simp) fun d g2 h3 h4 => ?_
  obtain ⟨k', rfl, k0, k1⟩ : ∃ k, d = .int k ∧ 0 < k ∧ k ≤ 4 := by
    simp at h4
    rcases h4 with rfl | rfl | rfl | rfl <;> exact ⟨_, rfl, by decide, by decide⟩
  have a1 : (z - 8).natAbs < 2 ^ 5 := by omega
  have a2 : k'.natAbs < 2 ^ 5 := by omega
  simp [reduce_rat (n := z - 8) (d := k') (a := 5) (by omega) a1 a2 (by decide)]
  exact k _ g2 h3 ⟨rb_div a1 a2 (by omega), ci_div (by omega) k0 k1⟩
theorem noLst_fr (q : Rat) : (frD q).noLst = true := rfl
theorem noLstL_frs : ∀ qs : List Rat, D.noLstL (qs.map frD) = true
  | [] => rfl
  | q :: qs => by rw [List.map_cons, D.noLstL, noLst_fr, noLstL_frs qs]; rfl
theorem ixNI {n : Nat} {z : Int} (h0 : 0 ≤ z) (h1 : z < n) : ixN n z = some z.toNat := by
  unfold ixN
  rw [if_pos h0, if_pos (by omega)]
theorem row_at {M : List (List Rat)} {z : Int} (h0 : 0 ≤ z) (h1 : z < M.length) : atI (M.map vecD) z = some (vecD (M[z.toNat]'(by omega))) := by
  unfold atI
  rw [List.length_map, ixNI h0 h1]
  show (M.map vecD)[z.toNat]? = _
  rw [List.getElem?_map, List.getElem?_eq_getElem (by omega)]
  rfl
@[irreducible] def LQ (n w : Nat) (o : Out) : Prop := ∃ (M : List (List Rat)) (s6 : Slot) (g' : Rng), o = .nx [.rng, .sh (.int n), .sh (.int w), .ow (M.map vecD), .un, .un, s6, .un, .un, .un, .un, .un] g' ∧ g'.Ok ∧ M.length = n ∧ ∀ r, r ∈ M → r.length = w ∧ ∀ q, q ∈ r → RR q
theorem lq_get {n w : Nat} {o : Out} (h : LQ n w o) : ∃ (M : List (List Rat)) (s6 : Slot) (g' : Rng), o = .nx [.rng, .sh (.int n), .sh (.int w), .ow (M.map vecD), .un, .un, s6, .un, .un, .un, .un, .un] g' ∧ g'.Ok ∧ M.length = n ∧ ∀ r, r ∈ M → r.length = w ∧ ∀ q, q ∈ r → RR q := by
  unfold LQ at h
  exact h
theorem lq_mk {n w : Nat} {M : List (List Rat)} {s6 : Slot} {g : Rng} (h : g.Ok) (hl : M.length = n) (hr : ∀ r, r ∈ M → r.length = w ∧ ∀ q, q ∈ r → RR q) : LQ n w (.nx [.rng, .sh (.int n), .sh (.int w), .ow (M.map vecD), .un, .un, s6, .un, .un, .un, .un, .un] g) := by
  unfold LQ
  exact ⟨M, s6, g, rfl, h, hl, hr⟩
theorem lin_then {g : Rng} {Q : D → Rng → Prop} (hg : g.Ok) (k : ∀ M ts g', g'.Ok → Lin M ts → Q (.tup [matD M, vecD ts]) g') : WG (m__law_linear_case [] g) Q := by
  refine WG_runG (by rfl) ?_
  show WV (b__law_linear_case [.rng, .un, .un, .un, .un, .un, .un, .un, .un, .un, .un, .un] g) _
  unfold b__law_linear_case
  rw [sSeq_, WV_bindO]
  refine WV.mono (Q := fun o => ∃ (n w : Nat) (g' : Rng), o = .nx [.rng, .sh (.int n), .sh (.int w), .un, .un, .un, .un, .un, .un, .un, .un, .un] g' ∧ g'.Ok ∧ 1 ≤ n ∧ n ≤ 5 ∧ 1 ≤ w ∧ w ≤ 5) ?_ ?_
  · simp
    refine draw_then hg (by decide) (by decide) fun z1 g1 h1 a0 a1 => ?_
    simp
    refine draw_then h1 (by decide) (by decide) fun z2 g2 h2 b0 b1 => ?_
    obtain ⟨n, hn⟩ : ∃ n : Nat, 1 + z1 = n := ⟨(1 + z1).toNat, by omega⟩
    obtain ⟨w, hw⟩ : ∃ n : Nat, 1 + z2 = n := ⟨(1 + z2).toNat, by omega⟩
    rw [hn]
    simp [hw]
    exact ⟨n, w, g2, ⟨⟨rfl, rfl⟩, rfl⟩, h2, by omega, by omega, by omega, by omega⟩
  rintro o ⟨n, w, g1, rfl, h1, n1, n5, w1, w5⟩
  rw [seqK_nx, sSeq_, WV_bindO]
  refine WV.mono (Q := fun o => ∃ (M : List (List Rat)) (g' : Rng), o = .nx [.rng, .sh (.int n), .sh (.int w), .ow (M.map vecD), .un, .un, .un, .un, .un, .un, .un, .un] g' ∧ g'.Ok ∧ M.length = n ∧ ∀ r, r ∈ M → r.length = w ∧ ∀ q, q ∈ r → RA q) ?_ ?_
  · simp [aLc_, Slot.isOw, wipeE, iRK_1, show -100000 ≤ (n : Int) by omega, show (n : Int) ≤ 100000 by omega, show n ≤ 1000 by omega]
    refine WG_noErr ((lcL_sm (tf := gNm 7) (χ := vecD) (P := fun r => r.length = w ∧ ∀ q, q ∈ r → RA q) h1 fun d hd => ⟨_, rfl, fun g hg => ?_⟩).mono ?_)
    · simp [aLc_, Slot.isOw, wipeE, iRK_1, show -100000 ≤ (w : Int) by omega, show (w : Int) ≤ 100000 by omega, show w ≤ 1000 by omega]
      refine WG_noErr ((lcL_q (tf := gNm 8) (P := RA) hg fun d hd => ⟨_, rfl, fun g hg => ?_⟩).mono ?_)
      · simp
        refine smallQ_then hg fun q g' hg' hq => ?_
        refine choice_then hg' (by simp) (by simp) fun x g2 h2 hx => ⟨h2, ?_⟩
        simp only [List.mem_cons, List.not_mem_nil, or_false] at hx
        rcases hx with rfl | rfl
        · exact ⟨0, rfl, ra_zero⟩
        · exact ⟨q, rfl, hq⟩
      · rintro l g' ⟨a1, qs, rfl, a3, a4⟩
        rw [length_rangeD] at a3
        exact ⟨a1, qs, rfl, a3, a4⟩
    · rintro l g' ⟨a1, us, rfl, a3, a4⟩
      rw [length_rangeD] at a3
      exact ⟨us, g', ⟨rfl, rfl⟩, a1, a3, a4⟩
  rintro o ⟨M, g2, rfl, h2, hl, hr⟩
  have b3 : ∀ (s4 s5 s6 : Slot) (M : List (List Rat)), borrow [3] [.rng, .sh (.int n), .sh (.int w), .ow (M.map vecD), s4, s5, s6, .un, .un, .un, .un, .un] = [.rng, .sh (.int n), .sh (.int w), .sh (matD M), s4, s5, s6, .un, .un, .un, .un, .un] := fun s4 s5 s6 M => borrow_one (pre := [.rng, .sh (.int n), .sh (.int w)]) rfl
  rw [seqK_nx, sSeq_, WV_bindO]
  refine WV.mono (Q := LQ n w) ?_ ?_
  · by_cases c1 : 1 < n
    · simp [show (1 : Int) < n by omega]
      refine draw_then h2 (by decide) (by decide) fun z g3 h3 z0 z1 => ?_
      by_cases c2 : z = 0
      · simp [c2]
        refine smallQ_then h3 fun q g4 h4 hq => ?_
        have hn : 0 < M.length := by omega
        have i0 := row_at (M := M) (z := 0) (by decide) (by omega)
        have i1 := row_at (M := M) (z := (n : Int) - 1) (by omega) (by omega)
        generalize hx : M[Int.toNat 0]'(by simp; omega) = x at i0
        generalize hy : M[((n : Int) - 1).toNat]'(by omega) = y at i1
        have rx := hr x (by rw [← hx]; exact List.getElem_mem _)
        have ry := hr y (by rw [← hy]; exact List.getElem_mem _)
        have lc := lcL_mapT (tf := gTp 2 (gsCons (gNm 10) (gsCons (gNm 11) gsNil))) (fe := eCall m__law_add (aCons (eVar 10) (aCons (eCall m__law_multiply (aCons (eVar 6) (aCons (eVar 11) aNil))) aNil))) (e := [.rng, .sh (.int n), .sh (.int w), .sh (matD M), .un, .un, .sh (frD q), .un, .un, .un, .un, .un]) (g := g4) (φ := fun p : Rat × Rat => .tup [frD p.1, frD p.2]) (ψ := fun p => frD (p.1 + q * p.2)) (ts := x.zip y) fun p hp => ⟨_, rfl, by
          have e1 := law_mul_ok (p := q) (q := p.2) hq.1 (ry.2 _ (List.of_mem_zip hp).2).1 (by decide)
          have e2 := law_add_ok (p := p.1) (q := q * p.2) (rx.2 _ (List.of_mem_zip hp).1).1 (rb_prod hq.1 (ry.2 _ (List.of_mem_zip hp).2).1) (by decide)
          simp [e1, e2]⟩
        rw [← zipQ] at lc
        have zl : (x.zip y).length = w := by rw [List.length_zip, rx.1, ry.1]; omega
        have bf : borF [3] (aLc [10, 11] (iZipD (aCons (eOp dIx (eVar 3) (eC (.int 0))) (aCons (eOp dIx (eVar 3) (eOp dSub (eVar 1) (eC (.int 1)))) aNil))) (gTp 2 (gsCons (gNm 10) (gsCons (gNm 11) gsNil))) mTrue (eCall m__law_add (aCons (eVar 10) (aCons (eCall m__law_multiply (aCons (eVar 6) (aCons (eVar 11) aNil))) aNil)))) [.rng, .sh (.int n), .sh (.int w), .ow (M.map vecD), .un, .un, .sh (frD q), .un, .un, .un, .un, .un] g4 = .ok (((x.zip y).map fun p => p.1 + q * p.2).map frD, g4) := by
          unfold borF
          rw [b3]
          have ii0 : dIx (matD M) (.int 0) = .ok (vecD x) := by unfold matD; rw [dIx_lst, i0]
          have ii1 : dIx (matD M) (.int ((n : Int) - 1)) = .ok (vecD y) := by unfold matD; rw [dIx_lst, i1]
          have hmin : min (x.length) (y.length) ≤ 1000 := by rw [rx.1, ry.1]; omega
          unfold vecD at ii0 ii1
          simp [aLc_, Slot.isOw, wipeE, ii0, ii1, dZip, lc, hmin]
          have := noLstL_frs ((x.zip y).map fun p => p.1 + q * p.2)
          rw [List.map_map] at this
          exact if_pos this
        unfold sSetI
        simp only [List.getElem?_cons_zero, List.getElem?_cons_succ]
        rw [WV_bind, eOfL_, bf, bind_ok, WG_ok]
        simp
        refine draw_then h4 (by omega) (by omega) fun z5 g5 h5 y0 y1 => ?_
        have ix : ixN (M.map vecD).length z5 = some z5.toNat := by rw [List.length_map]; exact ixNI y0 (by omega)
        rw [List.length_map] at ix
        simp [ix]
        have es : (M.map vecD).set z5.toNat (.lst (((x.zip y).map fun p => p.1 + q * p.2).map frD)) = (M.set z5.toNat ((x.zip y).map fun p => p.1 + q * p.2)).map vecD := by rw [List.map_set]; rfl
        rw [List.map_map] at es
        rw [es]
        refine lq_mk h5 (by rw [List.length_set]; exact hl) fun r hr' => ?_
        rcases List.mem_or_eq_of_mem_set hr' with hr' | rfl
        · exact ⟨(hr r hr').1, fun q hq => ((hr r hr').2 q hq).rr⟩
        · refine ⟨by rw [List.length_map]; exact zl, fun u hu => ?_⟩
          obtain ⟨p, hp, rfl⟩ := List.mem_map.mp hu
          exact ⟨(rb_sum (rx.2 _ (List.of_mem_zip hp).1).1 (rb_prod hq.1 (ry.2 _ (List.of_mem_zip hp).2).1)).up (by decide), (((rx.2 _ (List.of_mem_zip hp).1).2.up (M := 144) (C := 2304) (k := 12) rfl (by decide)).add (hq.2.mul (ry.2 _ (List.of_mem_zip hp).2).2)).mono (by decide)⟩
      · simp [c2]
        exact lq_mk h3 hl fun r h => ⟨(hr r h).1, fun q hq => ((hr r h).2 q hq).rr⟩
    · simp [show ¬ (1 : Int) < n by omega]
      exact lq_mk h2 hl fun r h => ⟨(hr r h).1, fun q hq => ((hr r h).2 q hq).rr⟩
  rintro o ho
  obtain ⟨M, s6, g3, rfl, h3, hl, hr⟩ := lq_get ho
  clear ho
  rw [seqK_nx, sSeq_, WV_bindO]
  refine WV.mono (Q := fun o => ∃ (ms : List Rat) (g' : Rng), o = .nx [.rng, .sh (.int n), .sh (.int w), .ow (M.map vecD), .sh (vecD ms), .un, s6, .un, .un, .un, .un, .un] g' ∧ g'.Ok ∧ ms.length = w ∧ ∀ q, q ∈ ms → RA q) ?_ ?_
  · simp [aLc_, Slot.isOw, wipeE, iRK_1, show -100000 ≤ (w : Int) by omega, show (w : Int) ≤ 100000 by omega, show w ≤ 1000 by omega]
    refine WG_noErr ((lcL_q (tf := gNm 8) (P := RA) h3 fun d hd => ⟨_, rfl, fun g hg => ?_⟩).mono ?_)
    · simp
      exact smallQ_then hg fun q g' hg' hq => ⟨hg', q, rfl, hq⟩
    · rintro l g' ⟨a1, qs, rfl, a3, a4⟩
      rw [length_rangeD] at a3
      exact ⟨qs, g', ⟨rfl, rfl⟩, a1, a3, a4⟩
  rintro o ⟨ms, g4, rfl, h4, ml, mb⟩
  have dots : ∀ r, r ∈ M → RT (dotR r ms) := fun r h => by
    have z := rb_dot (a := 20) (b := 5) (x := r) (y := ms) (fun q hq => ((hr r h).2 q hq).1) fun q hq => (mb q hq).1
    have c := ci_sum (N := 1728) (B := 7520256) (C := 0) (qs := (r.zip ms).map fun p => p.1 * p.2) (s := 0) (.zero _ _) fun q hq => by
      obtain ⟨p, hp, rfl⟩ := List.mem_map.mp hq
      exact ((hr r h).2 _ (List.of_mem_zip hp).1).2.mul (mb _ (List.of_mem_zip hp).2).2
    have l5 : (r.zip ms).length ≤ 5 := by rw [List.length_zip, (hr r h).1, ml]; omega
    refine ⟨z.up ?_, c.mono ?_⟩
    · have := Nat.mul_le_mul_left 26 l5
      omega
    · rw [List.length_map]; omega
  have rowlc : ∀ r, r ∈ M → ∀ (s5 : Slot) (s7 s8 s10 s11 : Slot), lcL (gTp 2 (gsCons (gNm 10) (gsCons (gNm 11) gsNil))) mTrue (eCall m__law_multiply (aCons (eVar 10) (aCons (eVar 11) aNil))) (((r.map frD).zip (ms.map frD)).map fun q => D.tup [q.1, q.2]) [.rng, .sh (.int n), .sh (.int w), .sh (matD M), .sh (vecD ms), s5, s6, s7, s8, .sh (vecD r), s10, s11] g4 = .ok (((r.zip ms).map fun p => p.1 * p.2).map frD, g4) := fun r h s5 s7 s8 s10 s11 => lc_prod fun p hp => ⟨_, rfl, by
    have := law_mul_ok (p := p.1) (q := p.2) ((hr r h).2 _ (List.of_mem_zip hp).1).1 (mb _ (List.of_mem_zip hp).2).1 (by decide)
    simp [this]⟩
  have b3' := b3
  rw [seqK_nx, sSeq_, WV_bindO]
  refine WV.mono (Q := fun o => ∃ ts : List Rat, o = .nx [.rng, .sh (.int n), .sh (.int w), .sh (matD M), .sh (vecD ms), .ow (ts.map frD), s6, .un, .un, .un, .un, .un] g4 ∧ ts.length = n ∧ ∀ q, q ∈ ts → RT q) ?_ ?_
  · unfold sFrz
    rw [b3]
    have lc := lcL_mapT (tf := gNm 9) (fe := eCall m__law_sum (aCons (eOfL (aLc [10, 11] (iZipD (aCons (eVar 9) (aCons (eVar 4) aNil))) (gTp 2 (gsCons (gNm 10) (gsCons (gNm 11) gsNil))) mTrue (eCall m__law_multiply (aCons (eVar 10) (aCons (eVar 11) aNil))))) aNil)) (e := [.rng, .sh (.int n), .sh (.int w), .sh (matD M), .sh (vecD ms), .un, s6, .un, .un, .un, .un, .un]) (g := g4) (φ := vecD) (ψ := fun r => frD (dotR r ms)) (ts := M) fun r h => ⟨_, rfl, by
      have e1 := rowlc r h .un .un .un .un .un
      have zl : min r.length ms.length ≤ 1000 := by rw [(hr r h).1, ml]; omega
      have e2 := lsum_ok (a := 25) (qs := (r.zip ms).map fun p => p.1 * p.2) (fun q hq => by
        obtain ⟨p, hp, rfl⟩ := List.mem_map.mp hq
        exact rb_prod ((hr r h).2 _ (List.of_mem_zip hp).1).1 (mb _ (List.of_mem_zip hp).2).1) (by rw [List.length_map, List.length_zip, (hr r h).1, ml]; omega)
      unfold vecD at e1
      simp [aLc_, Slot.isOw, wipeE, dZip, vecD, e1, zl] at e2 ⊢
      simp [e2]
      rfl⟩
    have hd : dItems (matD M) = .ok (M.map vecD) := rfl
    simp [aLc_, Slot.isOw, wipeE, hd, lc, show M.length ≤ 1000 by omega]
    refine ⟨M.map fun r => dotR r ms, ?_, by rw [List.length_map]; exact hl, fun q hq => ?_⟩
    · rw [List.map_map]; rfl
    · obtain ⟨r, h, rfl⟩ := List.mem_map.mp hq
      exact dots r h
  rintro o ⟨ts, rfl, tl, tb⟩
  rw [seqK_nx, sSeq_, WV_bindO]
  refine WV.mono (Q := fun o => ∃ (ts : List Rat) (g' : Rng), o = .nx [.rng, .sh (.int n), .sh (.int w), .sh (matD M), .sh (vecD ms), .ow (ts.map frD), s6, .un, .un, .un, .un, .un] g' ∧ g'.Ok ∧ ts.length = n ∧ ∀ q, q ∈ ts → RT q) ?_ ?_
  · simp
    refine draw_then h4 (by decide) (by decide) fun z g5 h5 z0 z1 => ?_
    by_cases c : z = 0
    · simp [c, sSetI]
      refine smallQ_then h5 fun q g6 h6 hq => ?_
      refine draw_then h6 (by omega) (by omega) fun z7 g7 h7 y0 y1 => ?_
      have ix : ixN ts.length z7 = some z7.toNat := ixNI y0 (by omega)
      simp [ix]
      have es : (ts.map frD).set z7.toNat (frD q) = (ts.set z7.toNat q).map frD := by rw [List.map_set]
      rw [es]
      refine ⟨ts.set z7.toNat q, g7, ⟨rfl, rfl⟩, h7, by rw [List.length_set]; exact tl, fun u hu => ?_⟩
      rcases List.mem_or_eq_of_mem_set hu with hu | rfl
      · exact tb u hu
      · exact hq.rt
    · simp [c]
      exact ⟨ts, g5, ⟨rfl, rfl⟩, h5, tl, tb⟩
  rintro o ⟨ts, g5, rfl, h5, tl, tb⟩
  rw [seqK_nx, sRet_]
  have b5 : borrow [5] [.rng, .sh (.int n), .sh (.int w), .sh (matD M), .sh (vecD ms), .ow (ts.map frD), s6, .un, .un, .un, .un, .un] = [.rng, .sh (.int n), .sh (.int w), .sh (matD M), .sh (vecD ms), .sh (vecD ts), s6, .un, .un, .un, .un, .un] := borrow_one (pre := [.rng, .sh (.int n), .sh (.int w), .sh (matD M), .sh (vecD ms)]) rfl
  rw [b5]
  simp
  exact k M ts g5 h5 ⟨by omega, by omega, ⟨w, w1, w5, fun r h => (hr r h).1⟩, by omega, fun r h => (hr r h).2, tb⟩
theorem eqv_frs : ∀ ps qs : List Rat, PyData.eqvAll (D.pyL (ps.map frD)) (D.pyL (qs.map frD)) = decide (ps = qs)
  | [], [] => by simp [D.pyL, PyData.eqvAll]
  | [], _ :: _ => by simp [D.pyL, PyData.eqvAll]
  | _ :: _, [] => by simp [D.pyL, PyData.eqvAll]
  | p :: ps, q :: qs => by
    rw [List.map_cons, List.map_cons, D.pyL, D.pyL, PyData.eqvAll, frD_inj, eqv_frs ps qs, Bool.eq_iff_iff]
    simp
theorem dEq_fr (p q : Rat) : dEq (frD p) (frD q) = .ok (.bl (decide (p = q))) := by
  unfold dEq
  rw [if_pos ⟨eqOk_shaped (eqOk_fr (n := 2) p) (by decide), eqOk_shaped (eqOk_fr (n := 2) q) (by decide)⟩, frD_inj]
theorem dNe_fr (p q : Rat) : dNe (frD p) (frD q) = .ok (.bl (!decide (p = q))) := by
  unfold dNe
  rw [if_pos ⟨eqOk_shaped (eqOk_fr (n := 2) p) (by decide), eqOk_shaped (eqOk_fr (n := 2) q) (by decide)⟩, frD_inj]
theorem dEq_frs {ps qs : List Rat} (h1 : ps.length ≤ 1000) (h2 : qs.length ≤ 1000) : dEq (.lst (ps.map frD)) (.lst (qs.map frD)) = .ok (.bl (decide (ps = qs))) := by
  unfold dEq
  rw [if_pos ⟨eqOk_shaped (eqOk_frs (n := 2) h1) (by decide), eqOk_shaped (eqOk_frs (n := 2) h2) (by decide)⟩]
  have := eqv_frs ps qs
  simp only [D.py, PyData.eqv, this]
theorem k_zero : k_ZERO = frD 0 := rfl
theorem k_one : k_ONE = frD 1 := rfl
theorem div_rat {p q : Rat} {a b : Nat} (hp : RB a p) (hq : RB b q) (h : a + b + 1 ≤ 8990) (hz : q ≠ 0) : m_divide [frD p, frD q] = .ok (frD (p / q)) := by
  have e : Rat.divInt (p.num * q.den) (p.den * q.num) = p / q := by
    conv => rhs; rw [Rat.div_def, Rat.inv_def, ← Rat.num_divInt_den p, Rat.divInt_mul_divInt]
  rw [div_ok hp hq h (fun z => hz (Rat.num_eq_zero.mp z)), e]
theorem scaled_ok {b : Nat} {r : List Rat} {p : Rat} (hr : ∀ q, q ∈ r → RB b q) (hp : RB b p) (p0 : p ≠ 0) (hl : r.length ≤ 1000) (hb : 2 * b + 1 ≤ 8990) : m_scaled [vecD r, frD p] = .ok (vecD (r.map fun q => q / p)) := by
  rw [m_scaled, runD, if_pos (by rfl)]
  show resD (b_scaled [.sh (vecD r), .sh (frD p), .un] g0) = _
  unfold b_scaled
  have lc := lcL_mapT (tf := gNm 2) (fe := eIf (eTest (eOp dEq (eVar 2) (eC k_ZERO))) (eVar 2) (eCall m_divide (aCons (eVar 2) (aCons (eVar 1) aNil)))) (e := [.sh (vecD r), .sh (frD p), .un]) (g := g0) (φ := frD) (ψ := fun q => frD (q / p)) (ts := r) fun q hq => ⟨_, rfl, by
    have e1 := div_rat (hr q hq) hp (by omega) p0
    have e2 := dEq_fr q 0
    by_cases c : q = 0
    · rw [decide_eq_true c] at e2
      subst c
      simp [k_zero, e2, Rat.div_def, Rat.zero_mul]
    · rw [decide_eq_false c] at e2
      simp [k_zero, e2, e1]⟩
  have hd : dItems (vecD r) = .ok (r.map frD) := rfl
  simp [aLc_, Slot.isOw, wipeE, hd, lc, hl]
  rw [vecD, List.map_map]
  rfl
theorem submul_ok {b : Nat} {r s : List Rat} {c : Rat} (hr : ∀ q, q ∈ r → RB b q) (hs : ∀ q, q ∈ s → RB b q) (hc : RB b c) (hl : r.length ≤ 1000) (hb : 3 * b + 2 ≤ 8990) : m_subtract_multiple [vecD r, vecD s, frD c] = .ok (vecD ((r.zip s).map fun p => p.1 - c * p.2)) := by
  rw [m_subtract_multiple, runD, if_pos (by rfl)]
  show resD (b_subtract_multiple [.sh (vecD r), .sh (vecD s), .sh (frD c), .un, .un] g0) = _
  unfold b_subtract_multiple
  have lc := lcL_mapT (tf := gTp 2 (gsCons (gNm 3) (gsCons (gNm 4) gsNil))) (fe := eIf (eTest (eOp dEq (eVar 4) (eC k_ZERO))) (eVar 3) (eCall m_subtract (aCons (eVar 3) (aCons (eCall m_multiply (aCons (eVar 2) (aCons (eVar 4) aNil))) aNil)))) (e := [.sh (vecD r), .sh (vecD s), .sh (frD c), .un, .un]) (g := g0) (φ := fun p : Rat × Rat => .tup [frD p.1, frD p.2]) (ψ := fun p => frD (p.1 - c * p.2)) (ts := r.zip s) fun p hp => ⟨_, rfl, by
    have z := List.of_mem_zip hp
    have e1 := mul_ok hc (hs _ z.2) (by omega)
    have e2 := psub_ok (hr _ z.1) (rb_prod hc (hs _ z.2)) (by omega)
    have e3 := dEq_fr p.2 0
    by_cases q : p.2 = 0
    · rw [decide_eq_true q, q] at e3
      simp [k_zero, q, e3, Rat.mul_zero, Rat.sub_eq_add_neg, Rat.add_zero]
    · rw [decide_eq_false q] at e3
      simp [k_zero, e3, e1, e2]⟩
  rw [← zipQ] at lc
  have hm : min r.length s.length ≤ 1000 := by omega
  unfold vecD at lc ⊢
  simp [aLc_, Slot.isOw, wipeE, dZip, lc, hm]
theorem range_map (n : Nat) : rangeD 0 n = (List.range n).map fun i => D.int (i : Nat) := by
  unfold rangeD
  simp
theorem unit_ok {n pos : Nat} (hn : n ≤ 1000) : m_unit_row [.int n, .int pos] = .ok (vecD ((List.range n).map fun k => if k = pos then 1 else 0)) := by
  rw [m_unit_row, runD, if_pos (by rfl)]
  show resD (b_unit_row [.sh (.int n), .sh (.int pos), .un] g0) = _
  unfold b_unit_row
  have lc := lcL_mapT (tf := gNm 2) (fe := eIf (eTest (eOp dEq (eVar 2) (eVar 1))) (eC k_ONE) (eC k_ZERO)) (e := [.sh (.int n), .sh (.int pos), .un]) (g := g0) (φ := fun i : Nat => D.int (i : Nat)) (ψ := fun k => frD (if k = pos then 1 else 0)) (ts := List.range n) fun k hk => ⟨_, rfl, by
    by_cases c : k = pos
    · simp [c, k_one]
    · simp [c, k_zero, show ¬ ((k : Int) = pos) by omega]⟩
  rw [← range_map] at lc
  simp [aLc_, Slot.isOw, wipeE, iRK_1, show -100000 ≤ (n : Int) by omega, show (n : Int) ≤ 100000 by omega, hn, lc]
  rw [vecD, List.map_map]
  rfl
def rAt (r : List Rat) (k : Nat) : Rat := r.getD k 0
def lAt (L : List (List Rat)) (k : Nat) : List Rat := L.getD k []
theorem fr_at {r : List Rat} {k : Nat} (h : k < r.length) : atI (r.map frD) (k : Int) = some (frD (rAt r k)) := by
  unfold atI
  rw [List.length_map, ixNI (by omega) (by omega)]
  show (r.map frD)[k]? = _
  rw [List.getElem?_map, List.getElem?_eq_getElem h]; unfold rAt; rw [List.getD_eq_getElem?_getD, List.getElem?_eq_getElem h]
  rfl
theorem rw_at {L : List (List Rat)} {k : Nat} (h : k < L.length) : atI (L.map vecD) (k : Int) = some (vecD (lAt L k)) := by
  unfold atI
  rw [List.length_map, ixNI (by omega) (by omega)]
  show (L.map vecD)[k]? = _
  rw [List.getElem?_map, List.getElem?_eq_getElem h]; unfold lAt; rw [List.getD_eq_getElem?_getD, List.getElem?_eq_getElem h]
  rfl
theorem rAt_mem {r : List Rat} {k : Nat} (h : k < r.length) : rAt r k ∈ r := by
  unfold rAt
  rw [List.getD_eq_getElem?_getD, List.getElem?_eq_getElem h]
  exact List.getElem_mem h
theorem lAt_mem {L : List (List Rat)} {k : Nat} (h : k < L.length) : lAt L k ∈ L := by
  unfold lAt
  rw [List.getD_eq_getElem?_getD, List.getElem?_eq_getElem h]
  exact List.getElem_mem h
def pivF (here : List Rat) (pos spot k : Nat) (line : List Rat) : List Rat := if k = pos then here else if rAt line spot = 0 then line else (line.zip here).map fun p => p.1 - rAt line spot * p.2
def hereR (L : List (List Rat)) (pos spot : Nat) : List Rat := (lAt L pos).map fun q => q / rAt (lAt L pos) spot
def pivR (L : List (List Rat)) (pos spot : Nat) : List (List Rat) := L.mapIdx fun k line => pivF (hereR L pos spot) pos spot k line
def pivTf : TgF := gTp 2 (gsCons (gNm 5) (gsCons (gNm 6) gsNil))
def pivB : MS := sIf (eTest (eOp dEq (eVar 5) (eVar 1))) (sApp 4 (eVar 3)) (sApp 4 (eIf (eTest (eOp dEq (eOp dIx (eVar 6) (eVar 2)) (eC k_ZERO))) (eVar 6) (eCall m_subtract_multiple (aCons (eVar 6) (aCons (eVar 3) (aCons (eOp dIx (eVar 6) (eVar 2)) aNil))))))
theorem pivB_ok {s0 : Slot} {pos spot k b : Nat} {here line : List Rat} {acc : List (List Rat)} (hs : spot < line.length) (hr : ∀ q, q ∈ line → RB b q) (hh : ∀ q, q ∈ here → RB b q) (hl : line.length ≤ 1000) (hb : 3 * b + 2 ≤ 8990) (ha : acc.length < 1000) :
    pivB [s0, .sh (.int pos), .sh (.int spot), .sh (vecD here), .ow (acc.map vecD), .sh (.int k), .sh (vecD line)] g0 = .ok (.nx [s0, .sh (.int pos), .sh (.int spot), .sh (vecD here), .ow ((acc ++ [pivF here pos spot k line]).map vecD), .sh (.int k), .sh (vecD line)] g0) := by
  have at1 := fr_at hs
  have ix : dIx (vecD line) (.int spot) = .ok (frD (rAt line spot)) := by unfold vecD; rw [dIx_lst, at1]
  have e1 := dEq_fr (rAt line spot) 0
  have e2 := submul_ok (r := line) (s := here) (c := rAt line spot) hr hh (hr _ (rAt_mem hs)) hl hb
  unfold pivB pivF
  by_cases c : k = pos
  · subst c
    simp [sApp, ha]
  · have c' : ¬ (k : Int) = pos := by omega
    by_cases z : rAt line spot = 0
    · have e0 := dEq_fr 0 0
      rw [decide_eq_true rfl] at e0
      simp only [sIf_, eTest_, eOp_, eVar_, List.getElem?_cons_zero, List.getElem?_cons_succ, bind_ok]
      simp [c', sApp, ix, k_zero, e0, ha, c, z]
    · rw [decide_eq_false z] at e1
      simp [c', sApp, ix, k_zero, e1, e2, ha, c, z]
theorem piv_loop {s0 : Slot} {pos spot b w : Nat} {here : List Rat} (hs : spot < w) (hh : ∀ q, q ∈ here → RB b q) (hw : w ≤ 1000) (hb : 3 * b + 2 ≤ 8990) : ∀ (L : List (List Rat)) (k : Nat) (acc : List (List Rat)) (s5 s6 : Slot), (∀ r, r ∈ L → r.length = w ∧ ∀ q, q ∈ r → RB b q) → acc.length + L.length ≤ 1000 →
    ∃ s5' s6', forL pivTf pivB (enumD k (L.map vecD)) [s0, .sh (.int pos), .sh (.int spot), .sh (vecD here), .ow (acc.map vecD), s5, s6] g0 = .ok (.nx [s0, .sh (.int pos), .sh (.int spot), .sh (vecD here), .ow ((acc ++ L.mapIdx fun i line => pivF here pos spot (k + i) line).map vecD), s5', s6'] g0)
  | [], k, acc, s5, s6, _, _ => ⟨s5, s6, by simp [forL, enumD]⟩
  | r :: L, k, acc, s5, s6, hL, hl => by
    rw [List.length_cons] at hl
    have h1 := hL r List.mem_cons_self
    obtain ⟨t5, t6, ih⟩ := piv_loop (s0 := s0) (pos := pos) hs hh hw hb L (k + 1) (acc ++ [pivF here pos spot k r]) (.sh (.int k)) (.sh (vecD r)) (fun x hx => hL x (List.mem_cons_of_mem _ hx)) (by rw [List.length_append, List.length_singleton]; omega)
    refine ⟨t5, t6, ?_⟩
    have tf : pivTf (.tup [.int (k : Nat), vecD r]) [s0, .sh (.int pos), .sh (.int spot), .sh (vecD here), .ow (acc.map vecD), s5, s6] = some [s0, .sh (.int pos), .sh (.int spot), .sh (vecD here), .ow (acc.map vecD), .sh (.int (k : Nat)), .sh (vecD r)] := rfl
    rw [List.map_cons, enumD_cons, forL]
    simp only [tf]
    rw [pivB_ok (by rw [h1.1]; exact hs) h1.2 hh (by rw [h1.1]; exact hw) hb (by omega)]
    simp only [bind_ok]
    have e : (fun i line => pivF here pos spot (k + 1 + i) line) = fun i line => pivF here pos spot (k + (i + 1)) line := by
      funext i line
      rw [show k + 1 + i = k + (i + 1) by omega]
    have e2 : acc ++ [pivF here pos spot k r] ++ L.mapIdx (fun i line => pivF here pos spot (k + 1 + i) line) = acc ++ (r :: L).mapIdx fun i line => pivF here pos spot (k + i) line := by
      rw [List.append_assoc, List.mapIdx_cons, e]; rfl
    rw [ih, e2]
theorem lcL_filtT {α : Type} {tf : TgF} {ft : MT} {fe : ME} {e : En} {g : Rng} {φ ψ : α → D} {p : α → Bool} : ∀ {ts : List α}, (∀ t, t ∈ ts → ∃ e1, tf (φ t) e = some e1 ∧ ft e1 g = .ok (p t, g) ∧ fe e1 g = .ok (ψ t, g)) → lcL tf ft fe (ts.map φ) e g = .ok ((ts.filter p).map ψ, g)
  | [], _ => by rw [List.map_nil, lcL]; rfl
  | t :: ts, h => by
    obtain ⟨e1, h1, h2, h3⟩ := h t List.mem_cons_self
    have ih := lcL_filtT (φ := φ) (ψ := ψ) (p := p) fun x hx => h x (List.mem_cons_of_mem _ hx)
    rw [List.map_cons, lcL]
    cases c : p t with
    | true =>
      rw [c] at h2
      simp only [h1, h2, h3, bind_ok, if_true, List.filter_cons, c, List.map_cons]
      rw [ih]
      rfl
    | false =>
      rw [c] at h2
      simp only [h1, h2, bind_ok, Bool.false_eq_true, if_false, List.filter_cons, c]
      rw [ih]
theorem WV_forN {tf : TgF} {fb : MS} {Q : Out → Prop} (I : Nat → En → Rng → Prop) : ∀ {ds : List D} {e : En} {g : Rng} {n : Nat}, I n e g → (∀ m d, ds[m]? = some d → ∀ e g, I (n + m) e g → ∃ e', tf d e = some e' ∧ WV (fb e' g) (outFor (I (n + m + 1)) Q)) → (∀ e g, I (n + ds.length) e g → Q (.nx e g)) → WV (forL tf fb ds e g) Q
  | [], e, g, n, h0, _, hd => by rw [forL, WV_ok]; exact hd e g h0
  | d :: ds, e, g, n, h0, hs, hd => by
    obtain ⟨e', h1, h2⟩ := hs 0 d rfl e g h0
    rw [forL]
    simp only [h1]
    obtain ⟨o, ho', hq⟩ := h2.get
    rw [ho']
    have el : n + 1 + ds.length = n + (d :: ds).length := by rw [List.length_cons]; omega
    have hs' : ∀ m d', ds[m]? = some d' → ∀ e g, I (n + 1 + m) e g → ∃ e', tf d' e = some e' ∧ WV (fb e' g) (outFor (I (n + 1 + m + 1)) Q) := fun m d' hd' e g hi => by
      have := hs (m + 1) d' (by simpa using hd') e g (by rw [show n + (m + 1) = n + 1 + m by omega]; exact hi)
      rw [show n + (m + 1) + 1 = n + 1 + m + 1 by omega] at this
      exact this
    cases o with
    | nx e2 g2 => exact WV_forN I hq hs' (by rw [el]; exact hd)
    | ct e2 g2 => exact WV_forN I hq hs' (by rw [el]; exact hd)
    | bk e2 g2 => show WV (.ok _) _; rw [WV_ok]; exact hq
    | rt d2 g2 => show WV (.ok _) _; rw [WV_ok]; exact hq
theorem WV_forI {tf : TgF} {fb : MS} {Q : Out → Prop} {ds : List D} {e : En} {g : Rng} (I : Nat → En → Rng → Prop) (h0 : I 0 e g) (hs : ∀ m d, ds[m]? = some d → ∀ e g, I m e g → ∃ e', tf d e = some e' ∧ WV (fb e' g) (outFor (I (m + 1)) Q)) (hd : ∀ e g, I ds.length e g → Q (.nx e g)) : WV (forL tf fb ds e g) Q :=
  WV_forN (n := 0) I h0 (fun m d h e g hi => by rw [Nat.zero_add] at hi ⊢; exact hs m d h e g hi) (fun e g h => by rw [Nat.zero_add] at h; exact hd e g h)
theorem cut_map {α β : Type} (f : α → β) (l : List α) (lo hi : Option Int) : DL.cutD (l.map f) lo hi = (DL.cutD l lo hi).map f := by
  unfold DL.cutD
  rw [List.length_map, List.map_take, List.map_drop]
def unitR (n k : Nat) : List Rat := (List.range n).map fun j => if j = k then 1 else 0
def lineR (n k : Nat) (r : List Rat) (t : Rat) : List Rat := r ++ [t] ++ unitR n k
theorem lineR_len (n k : Nat) (r : List Rat) (t : Rat) : (lineR n k r t).length = r.length + 1 + n := by
  unfold lineR unitR
  simp
  omega
def pairsD (k : Nat) : List (List Rat × Rat) → List D
  | [] => []
  | p :: l => .tup [.int (k : Nat), .tup [vecD p.1, frD p.2]] :: pairsD (k + 1) l
theorem pairsD_eq : ∀ (M : List (List Rat)) (ts : List Rat) (k : Nat), (((M.map vecD).zip (ts.map frD)).mapIdx fun i q => D.tup [.int ((k + i : Nat) : Int), .tup [q.1, q.2]]) = pairsD k (M.zip ts)
  | [], ts, k => by simp [pairsD]
  | _ :: _, [], k => by simp [pairsD]
  | r :: M, t :: ts, k => by
    rw [List.map_cons, List.map_cons, List.zip_cons_cons, List.zip_cons_cons, List.mapIdx_cons, pairsD, ← pairsD_eq M ts (k + 1)]
    have e : (fun (i : Nat) (q : D × D) => D.tup [.int ((k + (i + 1) : Nat) : Int), .tup [q.1, q.2]]) = fun i q => D.tup [.int ((k + 1 + i : Nat) : Int), .tup [q.1, q.2]] := by
      funext i q
      rw [show k + (i + 1) = k + 1 + i by omega]
    rw [e]
    rfl
def linesF (n k : Nat) : List (List Rat × Rat) → List (List Rat)
  | [] => []
  | p :: l => lineR n k p.1 p.2 :: linesF n (k + 1) l
theorem linesF_len (n : Nat) : ∀ (l : List (List Rat × Rat)) (k : Nat), (linesF n k l).length = l.length
  | [], k => rfl
  | p :: l, k => by rw [linesF, List.length_cons, List.length_cons, linesF_len n l]
theorem linesF_mem (n : Nat) {r : List Rat} : ∀ {l : List (List Rat × Rat)} {k : Nat}, r ∈ linesF n k l → ∃ j p, p ∈ l ∧ r = lineR n j p.1 p.2
  | [], k, h => by simp [linesF] at h
  | p :: l, k, h => by
    rw [linesF] at h
    rcases List.mem_cons.mp h with rfl | h
    · exact ⟨k, p, List.mem_cons_self, rfl⟩
    · obtain ⟨j, q, hq, e⟩ := linesF_mem n h
      exact ⟨j, q, List.mem_cons_of_mem _ hq, e⟩
def solTfA : TgF := gTp 2 (gsCons (gNm 4) (gsCons (gTp 2 (gsCons (gNm 5) (gsCons (gNm 6) gsNil))) gsNil))
def solA : MS := sApp 3 (eOp dAdd (eOp dAdd (eCall dList (aCons (eVar 5) aNil)) (eOfL (aLst (aCons (eVar 6) aNil)))) (eCall m_unit_row (aCons (eCall dLen (aCons (eVar 0) aNil)) (aCons (eVar 4) aNil))))
def homeD (p : Nat × Nat) : D := .tup [.int (p.1 : Nat), .int (p.2 : Nat)]
def idxL (L : List (List Rat)) : List (Nat × List Rat) := L.mapIdx fun i r => (i, r)
theorem idxL_mem {L : List (List Rat)} {p : Nat × List Rat} (h : p ∈ idxL L) : p.1 < L.length ∧ p.2 = lAt L p.1 := by
  unfold idxL at h
  obtain ⟨i, hi, rfl⟩ := List.mem_mapIdx.mp h
  refine ⟨hi, ?_⟩
  unfold lAt
  rw [List.getD_eq_getElem?_getD, List.getElem?_eq_getElem hi]
  rfl
theorem idxL_enum (L : List (List Rat)) : dEnum [matD L] = .ok ((idxL L).map fun p => .tup [.int (p.1 : Nat), vecD p.2]) := by
  show Res.ok _ = Res.ok _
  unfold idxL
  congr 1
  apply List.ext_getElem?
  intro n
  simp [List.getElem?_mapIdx, List.getElem?_map]
  cases L[n]? <;> simp
theorem idxL_len (L : List (List Rat)) : (idxL L).length = L.length := by unfold idxL; simp
theorem eqOk_ints {n : Nat} {l : List Nat} (h : l.length ≤ 1000) : eqOk (n + 2) (.lst (l.map fun i => D.int (i : Nat))) := by
  rw [eqOk]
  refine ⟨by simpa using h, fun x hx => ?_⟩
  obtain ⟨q, _, rfl⟩ := List.mem_map.mp hx
  simp [eqOk]
theorem notIn_ints {l : List Nat} (h : l.length ≤ 1000) (k : Nat) : dNotInS (.int (k : Nat)) (.lst (l.map fun i => D.int (i : Nat))) = .ok (.bl (!dMem (.int (k : Nat)) (l.map fun i => D.int (i : Nat)))) := by
  have h1 : SeqAt.shaped (D.int (k : Nat)).py = true := eqOk_shaped (n := 1) (by simp [eqOk]) (by decide)
  show (match (if SeqAt.shaped (D.int (k : Nat)).py = true ∧ SeqAt.shaped (D.lst (l.map fun i => D.int (i : Nat))).py = true then some (dMem (.int (k : Nat)) (l.map fun i => D.int (i : Nat))) else none) with
    | some b => Res.ok (D.bl (!b))
    | none => Res.stuck) = _
  rw [if_pos ⟨h1, eqOk_shaped (eqOk_ints (n := 2) h) (by decide)⟩]
theorem noLst_ints : ∀ l : List Nat, D.noLstL (l.map fun i => D.int (i : Nat)) = true
  | [] => rfl
  | q :: qs => by rw [List.map_cons, D.noLstL, noLst_ints qs]; rfl
def solB1 : MS := sAsg 11 (eOfL (borF [7] (aLc [13, 14] (iSeqD (eVar 7)) (gTp 2 (gsCons (gNm 13) (gsCons (gNm 14) gsNil))) mTrue (eVar 13))))
def solB2 : MS := sAsg 12 (eOfL (aLc [4, 9] (iEnumD (aCons (eVar 3) aNil)) (gTp 2 (gsCons (gNm 4) (gsCons (gNm 9) gsNil))) (tAndM (eTest (eOp dNotInS (eVar 4) (eVar 11))) (eTest (eOp dNe (eOp dIx (eVar 9) (eVar 8)) (eC k_ZERO)))) (eVar 4)))
def solB3 : MS := sIf (eTest (eOp dNe (eVar 12) (eOfL (aLst aNil)))) (sSeq (sAsg 3 (eCall m_pivot (aCons (eVar 3) (aCons (eOp dIx (eVar 12) (eC (.int 0))) (aCons (eVar 8) aNil)))))
    (sApp 7 (eTup (aCons (eOp dIx (eVar 12) (eC (.int 0))) (aCons (eVar 8) aNil))))) sNx
theorem solB1_ok {s0 s1 s2 s3 s4 s5 s6 s8 s9 s10 s11 s12 : Slot} {hs : List (Nat × Nat)} {g : Rng} (hl : hs.length ≤ 1000) :
    solB1 [s0, s1, s2, s3, s4, s5, s6, .ow (hs.map homeD), s8, s9, s10, s11, s12, .un, .un] g = .ok (.nx [s0, s1, s2, s3, s4, s5, s6, .ow (hs.map homeD), s8, s9, s10, .sh (.lst ((hs.map (·.1)).map fun i => D.int (i : Nat))), s12, .un, .un] g) := by
  have bo : borrow [7] [s0, s1, s2, s3, s4, s5, s6, .ow (hs.map homeD), s8, s9, s10, s11, s12, .un, .un] = [s0, s1, s2, s3, s4, s5, s6, .sh (.lst (hs.map homeD)), s8, s9, s10, s11, s12, .un, .un] := borrow_one (pre := [s0, s1, s2, s3, s4, s5, s6]) rfl
  have lc := lcL_mapT (tf := gTp 2 (gsCons (gNm 13) (gsCons (gNm 14) gsNil))) (fe := eVar 13) (e := [s0, s1, s2, s3, s4, s5, s6, .sh (.lst (hs.map homeD)), s8, s9, s10, s11, s12, .un, .un]) (g := g) (φ := homeD) (ψ := fun p => D.int (p.1 : Nat)) (ts := hs) fun p hp => ⟨_, rfl, rfl⟩
  have bf : borF [7] (aLc [13, 14] (iSeqD (eVar 7)) (gTp 2 (gsCons (gNm 13) (gsCons (gNm 14) gsNil))) mTrue (eVar 13)) [s0, s1, s2, s3, s4, s5, s6, .ow (hs.map homeD), s8, s9, s10, s11, s12, .un, .un] g = .ok (((hs.map (·.1)).map fun i => D.int (i : Nat)), g) := by
    unfold borF
    rw [bo]
    simp [aLc_, Slot.isOw, wipeE, lc, hl]
    have := noLst_ints (hs.map (·.1))
    rw [List.map_map] at this
    exact if_pos this
  unfold solB1
  rw [sAsg_, eOfL_, bf]
  simp
def keepP (spot : Nat) (used : List Nat) (p : Nat × List Rat) : Bool := !dMem (.int (p.1 : Nat)) (used.map fun i => D.int (i : Nat)) && !decide (rAt p.2 spot = 0)
theorem solB2_ok {s0 s1 s2 s4 s5 s6 s7 s10 s12 : Slot} {L : List (List Rat)} {used : List Nat} {spot w : Nat} {g : Rng} (h4 : s4.isOw = false) (hu : used.length ≤ 1000) (hL : ∀ r, r ∈ L → r.length = w) (hs : spot < w) (hl : L.length ≤ 1000) :
    solB2 [s0, s1, s2, .sh (matD L), s4, s5, s6, s7, .sh (.int spot), .un, s10, .sh (.lst (used.map fun i => D.int (i : Nat))), s12, .un, .un] g = .ok (.nx [s0, s1, s2, .sh (matD L), s4, s5, s6, s7, .sh (.int spot), .un, s10, .sh (.lst (used.map fun i => D.int (i : Nat))), .sh (.lst ((((idxL L).filter (keepP spot used)).map (·.1)).map fun i => D.int (i : Nat))), .un, .un] g) := by
  have lc := lcL_filtT (tf := gTp 2 (gsCons (gNm 4) (gsCons (gNm 9) gsNil))) (ft := tAndM (eTest (eOp dNotInS (eVar 4) (eVar 11))) (eTest (eOp dNe (eOp dIx (eVar 9) (eVar 8)) (eC k_ZERO)))) (fe := eVar 4) (e := [s0, s1, s2, .sh (matD L), .un, s5, s6, s7, .sh (.int spot), .un, s10, .sh (.lst (used.map fun i => D.int (i : Nat))), s12, .un, .un]) (g := g) (φ := fun p : Nat × List Rat => .tup [.int (p.1 : Nat), vecD p.2]) (ψ := fun p => D.int (p.1 : Nat)) (p := keepP spot used) (ts := idxL L) fun p hp => ⟨_, rfl, by
    obtain ⟨h1, h2⟩ := idxL_mem hp
    have n1 := notIn_ints hu p.1
    have ix : dIx (vecD p.2) (.int spot) = .ok (frD (rAt p.2 spot)) := by
      unfold vecD
      rw [dIx_lst, fr_at (by rw [h2, hL _ (lAt_mem h1)]; exact hs)]
    have n2 := dNe_fr (rAt p.2 spot) 0
    simp only [tAndM_, eTest_, eOp_, eVar_, List.set_cons_zero, List.set_cons_succ, List.getElem?_cons_zero, List.getElem?_cons_succ, bind_ok, n1, pureG_ok', toB_, eC_, ix, k_zero, n2]
    unfold keepP
    cases (!dMem (.int (p.1 : Nat)) (used.map fun i => D.int (i : Nat))) <;> simp, rfl⟩
  have hw : (wipeE [s0, s1, s2, .sh (matD L), s4, s5, s6, s7, .sh (.int spot), .un, s10, .sh (.lst (used.map fun i => D.int (i : Nat))), s12, .un, .un] [4, 9]) = [s0, s1, s2, .sh (matD L), .un, s5, s6, s7, .sh (.int spot), .un, s10, .sh (.lst (used.map fun i => D.int (i : Nat))), s12, .un, .un] := rfl
  unfold solB2
  rw [sAsg_, eOfL_, aLc_]
  simp only [iEnumD_, aCons_, aNil_, eVar_, List.getElem?_cons_zero, List.getElem?_cons_succ, bind_ok, idxL_enum, hw]
  rw [lc]
  have u : Slot.un.isOw = false := rfl
  simp [h4, u, idxL_len, hl]
theorem cut_from {α : Type} {l : List α} {k : Nat} (h : k ≤ l.length) : DL.cutD l (some (k : Int)) none = l.drop k := by
  unfold DL.cutD
  have e1 : HT.sIx l.length 0 (some (k : Int)) = k := (HT.sIx_nat _ _ _).trans (Nat.min_eq_left h)
  have e2 : HT.sIx l.length l.length none = l.length := rfl
  rw [e1, e2]
  exact List.take_of_length_le (by rw [List.length_drop]; exact Nat.le_refl _)
theorem cut_to {α : Type} {l : List α} {k : Nat} (h : k ≤ l.length) : DL.cutD l none (some (k : Int)) = l.take k := by
  unfold DL.cutD
  have e1 : HT.sIx l.length l.length (some (k : Int)) = k := (HT.sIx_nat _ _ _).trans (Nat.min_eq_left h)
  have e2 : HT.sIx l.length 0 none = 0 := rfl
  rw [e1, e2]
  rfl
def zerosD (w : Nat) : D := vecD (List.replicate w 0)
theorem zeros_ok {w : Nat} (h : w ≤ 1000) : dMul (.lst [k_ZERO]) (.int w) = .ok (zerosD w) := by
  rw [dMul_li ⟨by omega, by omega, by simp; omega⟩]
  unfold zerosD vecD
  rw [List.map_replicate, Int.toNat_natCast, List.flatten_replicate_singleton]
  rfl
def solD : MS := sSetI 10 (eOp dIx (eOp dIx (eVar 3) (eVar 4)) (eVar 2)) (eVar 8)
theorem solD_ok {s0 s1 s5 s6 s7 s9 s11 s12 s13 s14 : Slot} {L : List (List Rat)} {res : List Rat} {p s n w : Nat} {g : Rng} (hp : p < L.length) (hs : s < w) (hres : res.length = w) (hL : ∀ r, r ∈ L → r.length = w + 1 + n) :
    solD [s0, s1, .sh (.int w), .sh (matD L), .sh (.int p), s5, s6, s7, .sh (.int s), s9, .ow (res.map frD), s11, s12, s13, s14] g = .ok (.nx [s0, s1, .sh (.int w), .sh (matD L), .sh (.int p), s5, s6, s7, .sh (.int s), s9, .ow ((res.set s (rAt (lAt L p) w)).map frD), s11, s12, s13, s14] g) := by
  have i1 : dIx (matD L) (.int p) = .ok (vecD (lAt L p)) := by unfold matD; rw [dIx_lst, rw_at hp]
  have i2 : dIx (vecD (lAt L p)) (.int w) = .ok (frD (rAt (lAt L p) w)) := by
    unfold vecD
    rw [dIx_lst, fr_at (by rw [hL _ (lAt_mem hp)]; omega)]
  have ix : ixN res.length (s : Int) = some s := by
    have := ixNI (n := res.length) (z := (s : Int)) (by omega) (by omega)
    simpa using this
  unfold solD sSetI
  simp [i1, i2, ix, List.map_set]
theorem zipMT {M : List (List Rat)} {ts : List Rat} : dEnumZip [matD M, vecD ts] = .ok (pairsD 0 (M.zip ts)) := by
  show Res.ok _ = Res.ok _
  rw [← pairsD_eq]
  congr 1
  have e : (fun (i : Nat) (q : D × D) => D.tup [.int ((0 + i : Nat) : Int), .tup [q.1, q.2]]) = fun i q => D.tup [.int (i : Nat), .tup [q.1, q.2]] := by
    funext i q
    rw [Nat.zero_add]
  rw [e]
theorem divInt_mul (a W : Int) : Rat.divInt a W = (a : Rat) * ((W : Int) : Rat)⁻¹ := by rw [Rat.divInt_eq_div, Rat.div_def]
abbrev Vec := Nat → Rat
def sumN : Nat → (Nat → Rat) → Rat
  | 0, _ => 0
  | n + 1, f => sumN n f + f n
def sg : Nat → Rat
  | 0 => 1
  | n + 1 => - sg n
def vz : Vec := fun _ => 0
def vat (vs : List Vec) (i : Nat) : Vec := vs.getD i vz
def Dt : List Nat → List Vec → Rat
  | [], vs => if vs.length = 0 then 1 else 0
  | c :: cs, vs => sumN vs.length fun i => sg i * vat vs i c * Dt cs (vs.eraseIdx i)
theorem sumN_congr {n : Nat} {f g : Nat → Rat} (h : ∀ i, i < n → f i = g i) : sumN n f = sumN n g := by
  induction n with
  | zero => rfl
  | succ n ih => rw [sumN, sumN, ih fun i hi => h i (by omega), h n (by omega)]
theorem sumN_zero {n : Nat} {f : Nat → Rat} (h : ∀ i, i < n → f i = 0) : sumN n f = 0 := by
  induction n with
  | zero => rfl
  | succ n ih => rw [sumN, ih fun i hi => h i (by omega), h n (by omega)]; grind
theorem sumN_add {n : Nat} {f g : Nat → Rat} : sumN n (fun i => f i + g i) = sumN n f + sumN n g := by
  induction n with
  | zero => simp only [sumN]; grind
  | succ n ih => rw [sumN, sumN, sumN, ih]; grind
theorem sumN_mul {n : Nat} {f : Nat → Rat} (a : Rat) : sumN n (fun i => a * f i) = a * sumN n f := by
  induction n with
  | zero => simp only [sumN]; grind
  | succ n ih => rw [sumN, sumN, ih]; grind
theorem sumN_one {n p : Nat} {f : Nat → Rat} (hp : p < n) (h : ∀ i, i < n → i ≠ p → f i = 0) : sumN n f = f p := by
  induction n with
  | zero => omega
  | succ n ih =>
    rw [sumN]
    by_cases e : p = n
    · subst e
      rw [sumN_zero fun i hi => h i (by omega) (by omega)]; grind
    · rw [ih (by omega) fun i hi => h i (by omega), h n (by omega) (by omega)]; grind
theorem sumN_two {n p q : Nat} {f : Nat → Rat} (hpq : p < q) (hq : q < n) (h : ∀ i, i < n → i ≠ p → i ≠ q → f i = 0) : sumN n f = f p + f q := by
  induction n with
  | zero => omega
  | succ n ih =>
    rw [sumN]
    by_cases e : q = n
    · subst e
      rw [sumN_one hpq fun i hi hn => h i (by omega) hn (by omega)]
    · rw [ih (by omega) fun i hi => h i (by omega), h n (by omega) (by omega) (by omega)]; grind
theorem vat_set (vs : List Vec) (p i : Nat) (u : Vec) (hp : p < vs.length) : vat (vs.set p u) i = if i = p then u else vat vs i := by
  unfold vat
  rw [List.getD_eq_getElem?_getD, List.getD_eq_getElem?_getD, List.getElem?_set]
  by_cases e : i = p
  · subst e; simp [hp]
  · rw [if_neg (fun z => e z.symm), if_neg e]
theorem set_erase (vs : List Vec) (p i : Nat) (u : Vec) (hi : i < vs.length) : (vs.set p u).eraseIdx i = if i = p then vs.eraseIdx p else if i < p then (vs.eraseIdx i).set (p - 1) u else (vs.eraseIdx i).set p u := by
  apply List.ext_getElem?
  intro j
  by_cases e : i = p
  · subst e
    rw [if_pos rfl, List.getElem?_eraseIdx, List.getElem?_eraseIdx, List.getElem?_set, List.getElem?_set]
    by_cases c : j < i
    · rw [if_pos c, if_pos c, if_neg (by omega)]
    · rw [if_neg c, if_neg c, if_neg (by omega)]
  · rw [if_neg e]
    by_cases d : i < p
    · rw [if_pos d, List.getElem?_eraseIdx, List.getElem?_set, List.getElem?_set, List.getElem?_set, List.getElem?_eraseIdx, List.length_eraseIdx, if_pos hi]
      by_cases c : j < i
      · rw [if_pos c, if_neg (by omega), if_neg (by omega), if_pos c]
      · rw [if_neg c, if_neg c]
        by_cases k : p = j + 1
        · have k2 : p - 1 = j := by omega
          rw [if_pos k, if_pos k2]
          by_cases l : p < vs.length
          · rw [if_pos (by omega), if_pos (by omega)]
          · rw [if_neg (by omega), if_neg (by omega)]
        · rw [if_neg k, if_neg (by omega)]
    · rw [if_neg d, List.getElem?_eraseIdx, List.getElem?_set, List.getElem?_set, List.getElem?_set, List.getElem?_eraseIdx, List.length_eraseIdx, if_pos hi]
      by_cases c : j < i
      · rw [if_pos c]
        by_cases k : p = j
        · rw [if_pos k, if_pos k, if_pos (by omega), if_pos (by omega)]
        · rw [if_neg k, if_neg k, if_pos c]
      · rw [if_neg c, if_neg (by omega), if_neg (by omega), if_neg c]
theorem Dt_lin {a b : Rat} {u w : Vec} : ∀ {cs : List Nat} {vs : List Vec} {p : Nat}, p < vs.length → Dt cs (vs.set p fun k => a * u k + b * w k) = a * Dt cs (vs.set p u) + b * Dt cs (vs.set p w)
  | [], vs, p, hp => by
    rw [Dt, Dt, Dt, List.length_set, List.length_set, List.length_set, if_neg (by omega)]; grind
  | c :: cs, vs, p, hp => by
    rw [Dt, Dt, Dt, List.length_set, List.length_set, List.length_set, ← sumN_mul, ← sumN_mul, ← sumN_add]
    refine sumN_congr fun i hi => ?_
    rw [vat_set _ _ _ _ hp, vat_set _ _ _ _ hp, vat_set _ _ _ _ hp, set_erase _ _ _ _ hi, set_erase _ _ _ _ hi, set_erase _ _ _ _ hi]
    by_cases e : i = p
    · simp only [e, if_true]; grind
    · simp only [e, if_false]
      by_cases d : i < p
      · simp only [d, if_true]
        rw [Dt_lin (by rw [List.length_eraseIdx, if_pos hi]; omega)]; grind
      · simp only [d, if_false]
        rw [Dt_lin (by rw [List.length_eraseIdx, if_pos hi]; omega)]; grind
theorem vat_erase (vs : List Vec) (i j : Nat) : vat (vs.eraseIdx i) j = if j < i then vat vs j else vat vs (j + 1) := by
  unfold vat
  rw [List.getD_eq_getElem?_getD, List.getD_eq_getElem?_getD, List.getD_eq_getElem?_getD, List.getElem?_eraseIdx]
  by_cases c : j < i
  · rw [if_pos c, if_pos c]
  · rw [if_neg c, if_neg c]
theorem list_ext {vs ws : List Vec} (hl : vs.length = ws.length) (h : ∀ i, i < vs.length → vat vs i = vat ws i) : vs = ws := by
  apply List.ext_getElem?
  intro i
  by_cases hi : i < vs.length
  · have := h i hi
    unfold vat at this
    rw [List.getD_eq_getElem?_getD, List.getD_eq_getElem?_getD, List.getElem?_eq_getElem hi, List.getElem?_eq_getElem (by omega)] at this
    rw [List.getElem?_eq_getElem hi, List.getElem?_eq_getElem (by omega)]
    simpa using this
  · rw [List.getElem?_eq_none (by omega), List.getElem?_eq_none (by omega)]
theorem Dt_adj : ∀ {cs : List Nat} {vs : List Vec} {p : Nat}, p + 1 < vs.length → vat vs p = vat vs (p + 1) → Dt cs vs = 0
  | [], vs, p, hp, _ => by rw [Dt, if_neg (by omega)]
  | c :: cs, vs, p, hp, h => by
    rw [Dt, sumN_two (p := p) (q := p + 1) (by omega) hp fun i hi h1 h2 => ?_]
    · have e : vs.eraseIdx p = vs.eraseIdx (p + 1) := by
        refine list_ext (by rw [List.length_eraseIdx, List.length_eraseIdx, if_pos (by omega), if_pos hp]) fun j _ => ?_
        rw [vat_erase, vat_erase]
        by_cases a : j < p
        · rw [if_pos a, if_pos (by omega)]
        · rw [if_neg a]
          by_cases b : j < p + 1
          · have : j = p := by omega
            rw [if_pos b, this, h]
          · rw [if_neg b]
      rw [e, h, sg]; grind
    · have hl : (vs.eraseIdx i).length = vs.length - 1 := by rw [List.length_eraseIdx, if_pos hi]
      have : Dt cs (vs.eraseIdx i) = 0 := by
        by_cases d : i < p
        · refine Dt_adj (p := p - 1) (by omega) ?_
          rw [vat_erase, vat_erase, if_neg (by omega), if_neg (by omega), show p - 1 + 1 = p by omega, h]
        · refine Dt_adj (p := p) (by omega) ?_
          rw [vat_erase, vat_erase, if_pos (by omega), if_pos (by omega), h]
      rw [this, Rat.mul_zero]
def vadd (u w : Vec) : Vec := fun k => 1 * u k + 1 * w k
theorem Dt_swap {cs : List Nat} {vs : List Vec} {p : Nat} (hp : p + 1 < vs.length) (u w : Vec) : Dt cs ((vs.set p u).set (p + 1) w) = - Dt cs ((vs.set p w).set (p + 1) u) := by
  have l1 : ∀ x y : Vec, Dt cs ((vs.set p (vadd x y)).set (p + 1) (vadd x y)) = Dt cs ((vs.set p x).set (p + 1) x) + Dt cs ((vs.set p x).set (p + 1) y) + Dt cs ((vs.set p y).set (p + 1) x) + Dt cs ((vs.set p y).set (p + 1) y) := fun x y => by
    have a1 : Dt cs ((vs.set p (vadd x y)).set (p + 1) (vadd x y)) = 1 * Dt cs ((vs.set p (vadd x y)).set (p + 1) x) + 1 * Dt cs ((vs.set p (vadd x y)).set (p + 1) y) := Dt_lin (by rw [List.length_set]; exact hp)
    have a2 : ∀ z : Vec, Dt cs ((vs.set p (vadd x y)).set (p + 1) z) = 1 * Dt cs ((vs.set p x).set (p + 1) z) + 1 * Dt cs ((vs.set p y).set (p + 1) z) := fun z => by
      rw [List.set_comm _ _ (by omega), List.set_comm (i := p) (j := p + 1) x _ (by omega), List.set_comm (i := p) (j := p + 1) y _ (by omega)]
      exact Dt_lin (by rw [List.length_set]; omega)
    rw [a1, a2, a2]; grind
  have z : ∀ x : Vec, Dt cs ((vs.set p x).set (p + 1) x) = 0 := fun x => by
    refine Dt_adj (p := p) (by simpa using hp) ?_
    rw [vat_set _ _ _ _ (by simpa using hp), if_neg (by omega), vat_set _ _ _ _ (by omega), if_pos rfl, vat_set _ _ _ _ (by simpa using hp), if_pos rfl]
  have h := l1 u w
  rw [z, z, z] at h
  grind
theorem Dt_same {cs : List Nat} : ∀ (d : Nat) {vs : List Vec} {p : Nat}, p + 1 + d < vs.length → vat vs p = vat vs (p + 1 + d) → Dt cs vs = 0
  | 0, vs, p, hp, h => Dt_adj hp h
  | d + 1, vs, p, hp, h => by
    have hp1 : p + 1 < vs.length := by omega
    have e1 : vs = (vs.set p (vat vs p)).set (p + 1) (vat vs (p + 1)) := by
      refine list_ext (by simp) fun i hi => ?_
      rw [vat_set _ _ _ _ (by simpa using hp1), vat_set _ _ _ _ (by omega)]
      by_cases a : i = p + 1
      · rw [if_pos a, a]
      · rw [if_neg a]
        by_cases b : i = p
        · rw [if_pos b, b]
        · rw [if_neg b]
    have e2 := Dt_swap (cs := cs) (vs := vs) hp1 (vat vs p) (vat vs (p + 1))
    rw [← e1] at e2
    rw [e2]
    have : Dt cs ((vs.set p (vat vs (p + 1))).set (p + 1) (vat vs p)) = 0 := by
      refine Dt_same d (p := p + 1) (by simp; omega) ?_
      rw [vat_set _ _ _ _ (by simpa using hp1), if_pos rfl, vat_set _ _ _ _ (by simpa using hp1), if_neg (by omega), vat_set _ _ _ _ (by omega), if_neg (by omega), h]
      congr 1; omega
    rw [this]; grind
theorem Dt_two {cs : List Nat} {vs : List Vec} {p q : Nat} (hp : p < vs.length) (hq : q < vs.length) (hne : p ≠ q) (h : vat vs p = vat vs q) : Dt cs vs = 0 := by
  by_cases c : p < q
  · exact Dt_same (q - p - 1) (p := p) (by omega) (by rw [h]; congr 1; omega)
  · exact Dt_same (p - q - 1) (p := q) (by omega) (by rw [← h]; congr 1; omega)
theorem Dt_addm {cs : List Nat} {vs : List Vec} {p q : Nat} (hp : p < vs.length) (hq : q < vs.length) (hne : p ≠ q) (u : Vec) (b : Rat) : Dt cs (vs.set p fun k => 1 * u k + b * vat vs q k) = Dt cs (vs.set p u) := by
  rw [Dt_lin hp]
  have : Dt cs (vs.set p (vat vs q)) = 0 := by
    refine Dt_two (p := p) (q := q) (by simpa using hp) (by simpa using hq) hne ?_
    rw [vat_set _ _ _ _ hp, if_pos rfl, vat_set _ _ _ _ hp, if_neg (fun z => hne z.symm)]
  rw [this]; grind
def lcV (n : Nat) (x : Nat → Rat) (vs : List Vec) : Vec := fun k => sumN n fun j => x j * vat vs j k
theorem Dt_coord : ∀ {cs : List Nat} {vs ws : List Vec}, vs.length = ws.length → (∀ i c, i < vs.length → c ∈ cs → vat vs i c = vat ws i c) → Dt cs vs = Dt cs ws
  | [], vs, ws, hl, _ => by rw [Dt, Dt, hl]
  | c :: cs, vs, ws, hl, h => by
    rw [Dt, Dt, ← hl]
    refine sumN_congr fun i hi => ?_
    rw [h i c hi List.mem_cons_self, Dt_coord (cs := cs) (vs := vs.eraseIdx i) (ws := ws.eraseIdx i)]
    · rw [List.length_eraseIdx, List.length_eraseIdx, hl]
    · intro j d hj hd
      rw [List.length_eraseIdx, if_pos hi] at hj
      rw [vat_erase, vat_erase]
      split
      · exact h j d (by omega) (List.mem_cons_of_mem _ hd)
      · exact h (j + 1) d (by omega) (List.mem_cons_of_mem _ hd)
theorem Dt_null {cs : List Nat} {vs : List Vec} {p : Nat} (hp : p < vs.length) (h : ∀ c, c ∈ cs → vat vs p c = 0) : Dt cs vs = 0 := by
  have e : Dt cs vs = Dt cs (vs.set p fun k => 0 * vz k + 0 * vz k) := by
    refine Dt_coord (by simp) fun i c hi hc => ?_
    rw [vat_set _ _ _ _ hp]
    by_cases a : i = p
    · rw [if_pos a, a, h c hc]; unfold vz; grind
    · rw [if_neg a]
  rw [e, Dt_lin hp]; grind
theorem vat_app_l {vs ws : List Vec} {i : Nat} (h : i < vs.length) : vat (vs ++ ws) i = vat vs i := by
  unfold vat
  rw [List.getD_eq_getElem?_getD, List.getD_eq_getElem?_getD, List.getElem?_append_left h]
theorem vat_app_r {vs : List Vec} {x : Vec} : vat (vs ++ [x]) vs.length = x := by
  unfold vat
  rw [List.getD_eq_getElem?_getD, List.getElem?_append_right (Nat.le_refl _)]; simp
theorem app_set {vs : List Vec} {x y : Vec} : (vs ++ [x]).set vs.length y = vs ++ [y] := by
  rw [List.set_append_right _ _ (Nat.le_refl _)]; simp
theorem lcV_snoc {vs : List Vec} {b : Vec} {w : Nat → Rat} {k : Nat} : lcV (vs.length + 1) w (vs ++ [b]) k = lcV vs.length w vs k + w vs.length * b k := by
  unfold lcV
  rw [sumN, vat_app_r]
  congr 1
  exact sumN_congr fun i hi => by rw [vat_app_l hi]
theorem lcV_congr {n : Nat} {w w' : Nat → Rat} {vs : List Vec} {k : Nat} (h : ∀ i, i < n → w i = w' i) : lcV n w vs k = lcV n w' vs k := sumN_congr fun i hi => by rw [h i hi]
theorem lcV_add {n : Nat} {w w' : Nat → Rat} {vs : List Vec} {k : Nat} (b : Rat) : lcV n (fun i => w i + b * w' i) vs k = lcV n w vs k + b * lcV n w' vs k := by
  unfold lcV
  rw [← sumN_mul, ← sumN_add]
  exact sumN_congr fun i hi => by grind
theorem lcV_mul {n : Nat} {w : Nat → Rat} {vs : List Vec} {k : Nat} (b : Rat) : lcV n (fun i => b * w i) vs k = b * lcV n w vs k := by
  unfold lcV
  rw [← sumN_mul]
  exact sumN_congr fun i hi => by grind
theorem Dt_last {S : List Nat} {vs : List Vec} {x : Vec} {c : Nat} (h : ∀ s, s ∈ S → x s = 0) : Dt (c :: S) (vs ++ [x]) = sg vs.length * x c * Dt S vs := by
  rw [Dt, List.length_append, List.length_singleton, sumN, vat_app_r]
  have e : (vs ++ [x]).eraseIdx vs.length = vs := by
    rw [List.eraseIdx_append_of_length_le (Nat.le_refl _)]; simp
  rw [e, sumN_zero fun i hi => ?_]
  · grind
  · have : Dt S ((vs ++ [x]).eraseIdx i) = 0 := by
      refine Dt_null (p := vs.length - 1) (by rw [List.length_eraseIdx, if_pos (by simp; omega)]; simp; omega) fun s hs => ?_
      rw [vat_erase, if_neg (by omega), show vs.length - 1 + 1 = vs.length by omega, vat_app_r, h s hs]
    rw [this, Rat.mul_zero]
theorem Dt_lastc {cs : List Nat} {vs : List Vec} {b : Vec} {a : Rat} {w : Nat → Rat} : Dt cs (vs ++ [fun k => a * b k + lcV vs.length w vs k]) = a * Dt cs (vs ++ [b]) := by
  have key : ∀ n, n ≤ vs.length → Dt cs (vs ++ [fun k => a * b k + 1 * lcV n w vs k]) = a * Dt cs (vs ++ [b]) := by
    intro n
    induction n with
    | zero =>
      intro _
      have e : (fun k => a * b k + 1 * lcV 0 w vs k) = fun k => a * b k + 0 * b k := by funext k; unfold lcV sumN; grind
      rw [e, ← app_set (x := b), Dt_lin (by simp), app_set]; grind
    | succ n ih =>
      intro hn
      have e : (fun k => a * b k + 1 * lcV (n + 1) w vs k) = fun k => 1 * (a * b k + 1 * lcV n w vs k) + w n * vat (vs ++ [b]) n k := by
        funext k
        rw [vat_app_l (by omega)]
        unfold lcV
        rw [sumN]; grind
      rw [e, ← app_set (x := b), Dt_addm (p := vs.length) (q := n) (by simp) (by simp; omega) (by omega), app_set, ih (by omega)]
  have := key vs.length (Nat.le_refl _)
  rw [← this]
  congr 2
  congr 1
  funext k; grind
theorem nodup_inj {α β : Type} {f : α → β} : ∀ {l : List α} {x y : α}, (l.map f).Nodup → x ∈ l → y ∈ l → f x = f y → x = y
  | [], _, _, _, h, _, _ => (List.not_mem_nil h).elim
  | z :: l, x, y, nd, hx, hy, e => by
    rw [List.map_cons, List.nodup_cons] at nd
    rcases List.mem_cons.mp hx with h1 | h1
    · rcases List.mem_cons.mp hy with h2 | h2
      · rw [h1, h2]
      · exact absurd (List.mem_map.mpr ⟨y, h2, by rw [← h1]; exact e.symm⟩) nd.1
    · rcases List.mem_cons.mp hy with h2 | h2
      · exact absurd (List.mem_map.mpr ⟨x, h1, by rw [← h2]; exact e⟩) nd.1
      · exact nodup_inj nd.2 h1 h2 e
structure El (m : Nat) (B : Nat → Vec) (a : Nat → Rat) (line : Nat → Vec) (hs : List (Nat × Nat)) : Prop where
  hm : ∀ h, h ∈ hs → h.1 < m
  nd : (hs.map (·.1)).Nodup
  nd2 : (hs.map (·.2)).Nodup
  non : ∀ i, i < m → i ∉ hs.map (·.1) → ∃ w : Nat → Rat, ∀ k, line i k = a i * B i k + lcV hs.length w (hs.map fun h => B h.1) k
  hom : ∀ h, h ∈ hs → ∃ w : Nat → Rat, ∀ k, line h.1 k = lcV hs.length w (hs.map fun h => B h.1) k
  un : ∀ h, h ∈ hs → ∀ i, i < m → line i h.2 = if i = h.1 then 1 else 0
  det : Dt (hs.map (·.2)).reverse (hs.map fun h => B h.1) ≠ 0
theorem sg_ne (n : Nat) : sg n ≠ 0 := by
  induction n with
  | zero => decide +kernel
  | succ n ih => rw [sg]; grind
theorem sg_sq (n : Nat) : sg n * sg n = 1 := by
  induction n with
  | zero => decide +kernel
  | succ n ih => rw [sg]; grind
section
variable {m : Nat} {B : Nat → Vec} {a : Nat → Rat} {line : Nat → Vec} {hs : List (Nat × Nat)}
theorem El.entry (E : El m B a line hs) {i : Nat} (hi : i < m) (hn : i ∉ hs.map (·.1)) (c : Nat) : sg hs.length * line i c * Dt (hs.map (·.2)).reverse (hs.map fun h => B h.1) = a i * Dt (c :: (hs.map (·.2)).reverse) ((hs.map fun h => B h.1) ++ [B i]) := by
  obtain ⟨w, hw⟩ := E.non i hi hn
  have nul : ∀ s, s ∈ (hs.map (·.2)).reverse → line i s = 0 := fun s h => by
    rw [List.mem_reverse] at h
    obtain ⟨x, hx, rfl⟩ := List.mem_map.mp h
    rw [E.un x hx i hi, if_neg]
    rintro rfl
    exact hn (List.mem_map.mpr ⟨x, hx, rfl⟩)
  have h1 := Dt_last (c := c) (vs := hs.map fun h => B h.1) nul
  have e : line i = fun k => a i * B i k + lcV (hs.map fun h => B h.1).length w (hs.map fun h => B h.1) k := by
    funext k; rw [hw k, List.length_map]
  rw [List.length_map] at h1
  rw [← h1]
  conv => lhs; rw [e]
  exact Dt_lastc
theorem El.entryH (E : El m B a line hs) {h : Nat × Nat} (hh : h ∈ hs) {c : Nat} (hc : c ≠ h.2) : - (sg hs.length * line h.1 c * Dt (hs.map (·.2)).reverse (hs.map fun h => B h.1)) = Dt (c :: (hs.map (·.2)).reverse) ((hs.map fun h => B h.1) ++ [fun k => if k = h.2 then 1 else 0]) := by
  obtain ⟨w, hw⟩ := E.hom h hh
  have nul : ∀ s, s ∈ (hs.map (·.2)).reverse → (fun k => 1 * (if k = h.2 then (1 : Rat) else 0) + lcV (hs.map fun h => B h.1).length (fun i => -1 * w i) (hs.map fun h => B h.1) k) s = 0 := fun s hs' => by
    rw [List.mem_reverse] at hs'
    obtain ⟨x, hx, rfl⟩ := List.mem_map.mp hs'
    have h2 := E.un x hx h.1 (E.hm h hh)
    show 1 * (if x.2 = h.2 then (1 : Rat) else 0) + lcV _ _ _ _ = 0
    rw [lcV_mul, List.length_map, ← hw, h2]
    by_cases e : h.1 = x.1
    · have : h = x := nodup_inj E.nd hh hx e
      rw [if_pos e, if_pos (by rw [this])]; grind
    · have : x.2 ≠ h.2 := fun z => e (by rw [nodup_inj E.nd2 hh hx z.symm])
      rw [if_neg e, if_neg this]; grind
  have h1 := Dt_last (c := c) (vs := hs.map fun h => B h.1) nul
  rw [Dt_lastc, lcV_mul, List.length_map, ← hw, if_neg hc] at h1
  rw [Rat.one_mul] at h1
  rw [h1]; grind
def pivL (line : Nat → Vec) (pos spot : Nat) : Nat → Vec := fun i => if i = pos then (fun k => line pos k / line pos spot) else fun k => line i k - line i spot * (line pos k / line pos spot)
theorem El.step (E : El m B a line hs) {pos spot : Nat} (hp : pos < m) (hn : pos ∉ hs.map (·.1)) (h0 : line pos spot ≠ 0) (ha : a pos ≠ 0) : El m B a (pivL line pos spot) (hs ++ [(pos, spot)]) := by
  have hsp : spot ∉ hs.map (·.2) := fun z => by
    obtain ⟨x, hx, e⟩ := List.mem_map.mp z
    have := E.un x hx pos hp
    rw [if_neg (by rintro rfl; exact hn (List.mem_map.mpr ⟨x, hx, rfl⟩)), e] at this
    exact h0 this
  have eB : ((hs ++ [(pos, spot)]).map fun h => B h.1) = (hs.map fun h => B h.1) ++ [B pos] := by rw [List.map_append]; rfl
  have lB : (hs.map fun h => B h.1).length = hs.length := List.length_map _
  obtain ⟨wp, hwp⟩ := E.non pos hp hn
  have here : ∀ k, line pos k = lcV (hs.length + 1) (fun j => if j = hs.length then a pos else wp j) ((hs.map fun h => B h.1) ++ [B pos]) k := fun k => by
    have := lcV_snoc (vs := hs.map fun h => B h.1) (b := B pos) (w := fun j => if j = hs.length then a pos else wp j) (k := k)
    rw [lB] at this
    rw [this, if_pos rfl, lcV_congr (w' := wp) fun i hi => if_neg (by omega), hwp k]; grind
  have old : ∀ (w : Nat → Rat) k, lcV hs.length w (hs.map fun h => B h.1) k = lcV (hs.length + 1) (fun j => if j = hs.length then 0 else w j) ((hs.map fun h => B h.1) ++ [B pos]) k := fun w k => by
    have := lcV_snoc (vs := hs.map fun h => B h.1) (b := B pos) (w := fun j => if j = hs.length then 0 else w j) (k := k)
    rw [lB] at this
    rw [this, if_pos rfl, lcV_congr (w := fun j => if j = hs.length then 0 else w j) (w' := w) fun i hi => if_neg (by omega)]; grind
  refine ⟨fun h hh => ?_, ?_, ?_, fun i hi hni => ?_, fun h hh => ?_, fun h hh i hi => ?_, ?_⟩
  · rcases List.mem_append.mp hh with hh | hh
    · exact E.hm h hh
    · rw [List.mem_singleton.mp hh]; exact hp
  · rw [List.map_append, List.nodup_append]
    exact ⟨E.nd, by simp, fun x hx y hy => by rw [List.map_cons, List.map_nil, List.mem_singleton] at hy; rintro rfl; rw [hy] at hx; exact hn hx⟩
  · rw [List.map_append, List.nodup_append]
    exact ⟨E.nd2, by simp, fun x hx y hy => by rw [List.map_cons, List.map_nil, List.mem_singleton] at hy; rintro rfl; rw [hy] at hx; exact hsp hx⟩
  · rw [List.map_append, List.mem_append, not_or] at hni
    have ip : i ≠ pos := fun z => hni.2 (by simp [z])
    obtain ⟨w, hw⟩ := E.non i hi hni.1
    refine ⟨fun j => (if j = hs.length then 0 else w j) + (- (line i spot / line pos spot)) * (if j = hs.length then a pos else wp j), fun k => ?_⟩
    rw [eB, List.length_append, List.length_singleton, lcV_add, ← here, ← old]
    unfold pivL
    rw [if_neg ip, hw k, Rat.div_def, Rat.div_def]; grind
  · rw [eB, List.length_append, List.length_singleton]
    rcases List.mem_append.mp hh with hh | hh
    · have ip : h.1 ≠ pos := fun z => hn (z ▸ List.mem_map.mpr ⟨h, hh, rfl⟩)
      obtain ⟨w, hw⟩ := E.hom h hh
      refine ⟨fun j => (if j = hs.length then 0 else w j) + (- (line h.1 spot / line pos spot)) * (if j = hs.length then a pos else wp j), fun k => ?_⟩
      rw [lcV_add, ← here, ← old]
      unfold pivL
      rw [if_neg ip, hw k, Rat.div_def, Rat.div_def]; grind
    · rw [List.mem_singleton.mp hh]
      refine ⟨fun j => (line pos spot)⁻¹ * (if j = hs.length then a pos else wp j), fun k => ?_⟩
      rw [lcV_mul, ← here]
      unfold pivL
      rw [if_pos rfl, Rat.div_def]; grind
  · have pinv := Rat.mul_inv_cancel _ h0
    rcases List.mem_append.mp hh with hh | hh
    · have ip : pos ≠ h.1 := fun z => hn (z ▸ List.mem_map.mpr ⟨h, hh, rfl⟩)
      have h1 := E.un h hh i hi
      have h2 := E.un h hh pos hp
      rw [if_neg ip] at h2
      unfold pivL
      by_cases e : i = pos
      · rw [if_pos e, h2, if_neg (by rw [e]; exact ip), Rat.div_def]; grind
      · rw [if_neg e, h1, h2, Rat.div_def]; grind
    · rw [List.mem_singleton.mp hh]
      unfold pivL
      by_cases e : i = pos
      · rw [if_pos e, if_pos e, Rat.div_def]; exact pinv
      · rw [if_neg e, if_neg e, Rat.div_def]; grind
  · rw [eB, List.map_append, List.reverse_append]
    show Dt (spot :: (hs.map (·.2)).reverse) _ ≠ 0
    intro z
    have := E.entry hp hn spot
    rw [z, Rat.mul_zero] at this
    rcases Rat.mul_eq_zero.mp this with q | q
    · rcases Rat.mul_eq_zero.mp q with q | q
      · exact sg_ne _ q
      · exact h0 q
    · exact E.det q
end
def absV (q : Rat) : Rat := if q < 0 then -q else q
theorem absV_nn (q : Rat) : 0 ≤ absV q := by unfold absV; split <;> grind
theorem absV_mul (p q : Rat) : absV (p * q) = absV p * absV q := by
  unfold absV
  by_cases a : p < 0 <;> by_cases b : q < 0
  · have : 0 ≤ p * q := by have := Rat.mul_nonneg (a := -p) (b := -q) (by grind) (by grind); grind
    rw [if_pos a, if_pos b]; split <;> grind
  · have : p * q ≤ 0 := by have := Rat.mul_nonneg (a := -p) (b := q) (by grind) (by grind); grind
    rw [if_pos a, if_neg b]; split <;> grind
  · have : p * q ≤ 0 := by have := Rat.mul_nonneg (a := p) (b := -q) (by grind) (by grind); grind
    rw [if_neg a, if_pos b]; split <;> grind
  · have : 0 ≤ p * q := Rat.mul_nonneg (by grind) (by grind)
    rw [if_neg a, if_neg b]; split <;> grind
theorem absV_add (p q : Rat) : absV (p + q) ≤ absV p + absV q := by
  unfold absV
  split <;> split <;> split <;> grind
theorem absV_sg (n : Nat) : absV (sg n) = 1 := by
  induction n with
  | zero => decide +kernel
  | succ n ih => rw [sg]; unfold absV at *; split at ih <;> split <;> grind
def nrm (cs : List Nat) (v : Vec) : Rat := (cs.map fun c => absV (v c)).foldr (· + ·) 0
theorem nrm_nn (cs : List Nat) (v : Vec) : 0 ≤ nrm cs v := by
  induction cs with
  | nil => exact Rat.le_refl
  | cons c cs ih => have := absV_nn (v c); show 0 ≤ absV (v c) + nrm cs v; grind
def prodR : List Rat → Rat
  | [] => 1
  | x :: l => x * prodR l
theorem prodR_nn : ∀ {l : List Rat}, (∀ x, x ∈ l → 0 ≤ x) → 0 ≤ prodR l
  | [], _ => by rw [prodR]; decide +kernel
  | x :: l, h => Rat.mul_nonneg (h x List.mem_cons_self) (prodR_nn fun y hy => h y (List.mem_cons_of_mem _ hy))
theorem sumN_head {n : Nat} {f : Nat → Rat} : sumN (n + 1) f = f 0 + sumN n fun i => f (i + 1) := by
  induction n with
  | zero => simp only [sumN]; grind
  | succ n ih => rw [sumN, ih, sumN]; grind
theorem sumN_le {n : Nat} {f g : Nat → Rat} (h : ∀ i, i < n → f i ≤ g i) : sumN n f ≤ sumN n g := by
  induction n with
  | zero => exact Rat.le_refl
  | succ n ih => have := ih fun i hi => h i (by omega); have := h n (by omega); rw [sumN, sumN]; grind
theorem absV_sumN {n : Nat} {f : Nat → Rat} : absV (sumN n f) ≤ sumN n fun i => absV (f i) := by
  induction n with
  | zero => show absV 0 ≤ 0; decide +kernel
  | succ n ih => rw [sumN, sumN]; have := absV_add (sumN n f) (f n); grind
theorem mul_mono {p q r s : Rat} (h0 : 0 ≤ p) (h1 : p ≤ q) (h2 : 0 ≤ r) (h3 : r ≤ s) : p * r ≤ q * s :=
  Rat.le_trans (Rat.mul_le_mul_of_nonneg_left h3 h0) (Rat.mul_le_mul_of_nonneg_right h1 (by grind))
theorem leib {f g : Vec → Rat} (hf : ∀ v, 0 ≤ f v) (hg : ∀ v, 0 ≤ g v) : ∀ (vs : List Vec), sumN vs.length (fun i => f (vat vs i) * prodR ((vs.eraseIdx i).map g)) + prodR (vs.map g) ≤ prodR (vs.map fun v => f v + g v)
  | [] => by
    have e : ((0 : Rat) + 1) = 1 := by decide +kernel
    show (0 : Rat) + 1 ≤ 1
    rw [e]; exact Rat.le_refl
  | v :: vs => by
    have ih := leib hf hg vs
    rw [List.length_cons, sumN_head]
    have e0 : vat (v :: vs) 0 = v := rfl
    have e1 : ∀ i, vat (v :: vs) (i + 1) = vat vs i := fun i => rfl
    have e2 : ∀ i, ((v :: vs).eraseIdx (i + 1)).map g = g v :: (vs.eraseIdx i).map g := fun i => rfl
    have e3 : (v :: vs).eraseIdx 0 = vs := rfl
    rw [e0, e3]
    have e4 : (sumN vs.length fun i => f (vat (v :: vs) (i + 1)) * prodR (((v :: vs).eraseIdx (i + 1)).map g)) = g v * sumN vs.length fun i => f (vat vs i) * prodR ((vs.eraseIdx i).map g) := by
      rw [← sumN_mul]
      exact sumN_congr fun i hi => by rw [e1, e2, prodR]; grind
    rw [e4, List.map_cons, List.map_cons, prodR, prodR]
    have p1 : 0 ≤ prodR (vs.map g) := prodR_nn fun x hx => by obtain ⟨u, _, rfl⟩ := List.mem_map.mp hx; exact hg u
    have p2 : 0 ≤ sumN vs.length fun i => f (vat vs i) * prodR ((vs.eraseIdx i).map g) := by
      have : sumN vs.length (fun _ => 0) ≤ sumN vs.length fun i => f (vat vs i) * prodR ((vs.eraseIdx i).map g) := sumN_le fun i hi => Rat.mul_nonneg (hf _) (prodR_nn fun x hx => by obtain ⟨u, _, rfl⟩ := List.mem_map.mp hx; exact hg u)
      rw [sumN_zero fun _ _ => rfl] at this
      exact this
    have q1 := Rat.mul_le_mul_of_nonneg_left ih (show 0 ≤ f v + g v by have := hf v; have := hg v; grind)
    have q2 := Rat.mul_nonneg (hf v) p2
    grind
theorem Dt_le : ∀ (cs : List Nat) (vs : List Vec), absV (Dt cs vs) ≤ prodR (vs.map (nrm cs))
  | [], vs => by
    rw [Dt]
    by_cases h : vs.length = 0
    · rw [if_pos h, List.length_eq_zero_iff.mp h]
      show absV 1 ≤ 1
      decide +kernel
    · rw [if_neg h]
      have : 0 ≤ prodR (vs.map (nrm [])) := prodR_nn fun x hx => by obtain ⟨u, _, rfl⟩ := List.mem_map.mp hx; exact nrm_nn _ _
      have e : absV 0 = 0 := by decide +kernel
      rw [e]; exact this
  | c :: cs, vs => by
    rw [Dt]
    refine Rat.le_trans absV_sumN ?_
    have h1 : (sumN vs.length fun i => absV (sg i * vat vs i c * Dt cs (vs.eraseIdx i))) ≤ sumN vs.length fun i => (fun v : Vec => absV (v c)) (vat vs i) * prodR ((vs.eraseIdx i).map (nrm cs)) := sumN_le fun i hi => by
      rw [absV_mul, absV_mul, absV_sg, Rat.one_mul]
      exact Rat.mul_le_mul_of_nonneg_left (Dt_le cs _) (absV_nn _)
    have h2 := leib (f := fun v : Vec => absV (v c)) (g := nrm cs) (fun v => absV_nn _) (fun v => nrm_nn _ _) vs
    have h3 : 0 ≤ prodR (vs.map (nrm cs)) := prodR_nn fun x hx => by obtain ⟨u, _, rfl⟩ := List.mem_map.mp hx; exact nrm_nn _ _
    have h4 : (vs.map fun v => absV (v c) + nrm cs v) = vs.map (nrm (c :: cs)) := rfl
    rw [h4] at h2
    grind
def isI (q : Rat) : Prop := ∃ x : Int, q = (x : Rat)
theorem isI_mul {p q : Rat} (h : isI p) (k : isI q) : isI (p * q) := by
  obtain ⟨x, rfl⟩ := h; obtain ⟨y, rfl⟩ := k; exact ⟨x * y, by rw [Rat.intCast_mul]⟩
theorem isI_add {p q : Rat} (h : isI p) (k : isI q) : isI (p + q) := by
  obtain ⟨x, rfl⟩ := h; obtain ⟨y, rfl⟩ := k; exact ⟨x + y, by rw [Rat.intCast_add]⟩
theorem isI_neg {p : Rat} (h : isI p) : isI (-p) := by
  obtain ⟨x, rfl⟩ := h; exact ⟨-x, by rw [Rat.intCast_neg]⟩
theorem isI_zero : isI 0 := ⟨0, rfl⟩
theorem isI_one : isI 1 := ⟨1, rfl⟩
theorem isI_sg (n : Nat) : isI (sg n) := by
  induction n with
  | zero => exact isI_one
  | succ n ih => exact isI_neg ih
theorem isI_sumN {n : Nat} {f : Nat → Rat} (h : ∀ i, i < n → isI (f i)) : isI (sumN n f) := by
  induction n with
  | zero => exact isI_zero
  | succ n ih => exact isI_add (ih fun i hi => h i (by omega)) (h n (by omega))
theorem Dt_int : ∀ (cs : List Nat) (vs : List Vec), (∀ i c, i < vs.length → c ∈ cs → isI (vat vs i c)) → isI (Dt cs vs)
  | [], vs, _ => by rw [Dt]; split; exact isI_one; exact isI_zero
  | c :: cs, vs, h => by
    rw [Dt]
    refine isI_sumN fun i hi => isI_mul (isI_mul (isI_sg i) (h i c hi List.mem_cons_self)) (Dt_int cs _ fun j d hj hd => ?_)
    rw [List.length_eraseIdx, if_pos hi] at hj
    rw [vat_erase]
    split
    · exact h j d (by omega) (List.mem_cons_of_mem _ hd)
    · exact h (j + 1) d (by omega) (List.mem_cons_of_mem _ hd)
theorem prodR_ge1 {l : List Rat} (h : ∀ x, x ∈ l → 1 ≤ x) : 1 ≤ prodR l := by
  induction l with
  | nil => exact Rat.le_refl
  | cons x l ih =>
    have h1 := h x List.mem_cons_self
    have h2 := ih fun y hy => h y (List.mem_cons_of_mem _ hy)
    rw [prodR]
    have := Rat.mul_le_mul_of_nonneg_left h2 (show 0 ≤ x by grind)
    grind
theorem prodR_erase {α : Type} [DecidableEq α] {f : α → Rat} {x : α} : ∀ {L : List α}, x ∈ L → prodR (L.map f) = f x * prodR ((L.erase x).map f)
  | [], h => (List.not_mem_nil h).elim
  | y :: L, h => by
    by_cases e : y = x
    · subst e; rw [List.erase_cons_head]; rfl
    · rw [List.erase_cons_tail (by simpa using e), List.map_cons, List.map_cons, prodR, prodR, prodR_erase ((List.mem_cons.mp h).resolve_left fun z => e z.symm)]; grind
theorem prodR_sub {α : Type} [DecidableEq α] {f : α → Rat} : ∀ {l L : List α}, l.Nodup → (∀ x, x ∈ l → x ∈ L) → (∀ x, x ∈ L → 1 ≤ f x) → prodR (l.map f) ≤ prodR (L.map f)
  | [], L, _, _, h => prodR_ge1 fun x hx => by obtain ⟨y, hy, rfl⟩ := List.mem_map.mp hx; exact h y hy
  | x :: l, L, nd, hs, h => by
    rw [List.nodup_cons] at nd
    have hx := hs x List.mem_cons_self
    rw [prodR_erase hx, List.map_cons, prodR]
    have ih := prodR_sub (f := f) (l := l) (L := L.erase x) nd.2 (fun y hy => (List.mem_erase_of_ne (fun z : y = x => nd.1 (by rw [← z]; exact hy))).mpr (hs y (List.mem_cons_of_mem _ hy))) fun y hy => h y (List.mem_of_mem_erase hy)
    exact Rat.mul_le_mul_of_nonneg_left ih (by have := h x hx; grind)
theorem nrm_erase {v : Vec} {x : Nat} : ∀ {L : List Nat}, x ∈ L → nrm L v = absV (v x) + nrm (L.erase x) v
  | [], h => (List.not_mem_nil h).elim
  | y :: L, h => by
    by_cases e : y = x
    · subst e; rw [List.erase_cons_head]; rfl
    · rw [List.erase_cons_tail (by simpa using e)]
      have := nrm_erase (v := v) ((List.mem_cons.mp h).resolve_left fun z => e z.symm)
      show absV (v y) + nrm L v = absV (v x) + (absV (v y) + nrm (L.erase x) v)
      rw [this]; grind
theorem nrm_sub {v : Vec} : ∀ {l L : List Nat}, l.Nodup → (∀ x, x ∈ l → x ∈ L) → nrm l v ≤ nrm L v
  | [], L, _, _ => nrm_nn L v
  | x :: l, L, nd, hs => by
    rw [List.nodup_cons] at nd
    rw [nrm_erase (hs x List.mem_cons_self)]
    have ih := nrm_sub (v := v) (l := l) (L := L.erase x) nd.2 fun y hy => (List.mem_erase_of_ne (fun z : y = x => nd.1 (by rw [← z]; exact hy))).mpr (hs y (List.mem_cons_of_mem _ hy))
    show absV (v x) + nrm l v ≤ _
    grind
theorem nrm_unit {s : Nat} : ∀ {l : List Nat}, l.Nodup → nrm l (fun k => if k = s then 1 else 0) ≤ 1
  | [], _ => by show (0 : Rat) ≤ 1; decide +kernel
  | x :: l, nd => by
    rw [List.nodup_cons] at nd
    show absV (if x = s then (1 : Rat) else 0) + nrm l _ ≤ 1
    have a0 : absV 0 = 0 := by decide +kernel
    have a1 : absV 1 = 1 := by decide +kernel
    by_cases e : x = s
    · have : nrm l (fun k => if k = s then 1 else 0) = 0 := by
        have h : s ∉ l := e ▸ nd.1
        clear nd
        induction l with
        | nil => rfl
        | cons y l ih =>
          show absV (if y = s then (1 : Rat) else 0) + nrm l _ = 0
          rw [if_neg (fun z => h (by rw [z]; exact List.mem_cons_self)), ih (fun z => h (List.mem_cons_of_mem _ z)), a0]; decide +kernel
      rw [if_pos e, this, a1]; decide +kernel
    · have ih := nrm_unit (s := s) nd.2
      rw [if_neg e, a0]; grind
theorem prodR_app {l m : List Rat} : prodR (l ++ m) = prodR l * prodR m := by
  induction l with
  | nil => show prodR m = 1 * prodR m; grind
  | cons x l ih => show x * prodR (l ++ m) = x * prodR l * prodR m; rw [ih]; grind
theorem prodR_mono {α : Type} {f g : α → Rat} : ∀ {l : List α}, (∀ x, x ∈ l → 0 ≤ f x ∧ f x ≤ g x) → prodR (l.map f) ≤ prodR (l.map g)
  | [], _ => Rat.le_refl
  | x :: l, h => by
    have h1 := h x List.mem_cons_self
    have ih := prodR_mono (l := l) fun y hy => h y (List.mem_cons_of_mem _ hy)
    rw [List.map_cons, List.map_cons, prodR, prodR]
    exact mul_mono h1.1 h1.2 (prodR_nn fun y hy => by obtain ⟨z, hz, rfl⟩ := List.mem_map.mp hy; exact (h z (List.mem_cons_of_mem _ hz)).1) ih
structure Sm (m W : Nat) (B : Nat → Vec) (a : Nat → Rat) (E : Nat) : Prop where
  int : ∀ i c, i < m → c < W → isI (B i c)
  ex : ∃ Nm : Nat → Rat, (∀ i, i < m → 1 ≤ Nm i ∧ nrm (List.range W) (B i) ≤ Nm i ∧ ∃ N : Nat, 0 < N ∧ ((N : Int) : Rat) ≤ Nm i ∧ a i = ((N : Int) : Rat)⁻¹) ∧ prodR ((List.range m).map Nm) < (((2 ^ E : Nat) : Int) : Rat)
theorem natAbs_lt {x : Int} {E : Nat} (h : absV (x : Rat) < (((2 ^ E : Nat) : Int) : Rat)) : x.natAbs < 2 ^ E := by
  unfold absV at h
  have e : ((0 : Int) : Rat) = 0 := rfl
  split at h
  · rename_i c
    rw [← Rat.intCast_neg] at h
    have h' : -x < ((2 ^ E : Nat) : Int) := by exact_mod_cast h
    have c' : x < 0 := by rw [← e] at c; exact_mod_cast c
    omega
  · rename_i c
    have h' : x < ((2 ^ E : Nat) : Int) := by exact_mod_cast h
    have c' : ¬ x < 0 := fun z => c (by rw [← e]; exact_mod_cast z)
    omega
theorem lt_le {p q r : Rat} (h : p ≤ q) (k : q < r) : p < r := by
  rw [Rat.lt_iff_le_and_not_ge] at k ⊢
  exact ⟨Rat.le_trans h k.1, fun z => k.2 (Rat.le_trans z h)⟩
section
variable {m W E : Nat} {B : Nat → Vec} {a : Nat → Rat} {line : Nat → Vec} {hs : List (Nat × Nat)}
theorem El.size (L : El m B a line hs) (S : Sm m W B a E) (hW : ∀ h, h ∈ hs → h.2 < W) :
    ∃ (y : Int) (P0 : Rat), y ≠ 0 ∧ y.natAbs < 2 ^ E ∧
      (∀ h c, h ∈ hs → c < W → ∃ x : Int, line h.1 c * (y : Rat) = (x : Rat) ∧ x.natAbs < 2 ^ E) ∧
      (∀ i, i < m → i ∉ hs.map (·.1) → ∃ z : Int, z ≠ 0 ∧ z.natAbs < 2 ^ E ∧ ∀ c, c < W → ∃ x : Int, line i c * (z : Rat) = (x : Rat) ∧ x.natAbs < 2 ^ E) := by
  obtain ⟨Nm, hN, hP⟩ := S.ex
  have ndS : (hs.map (·.2)).reverse.Nodup := (List.reverse_perm _).nodup_iff.mpr L.nd2
  have inS : ∀ s, s ∈ (hs.map (·.2)).reverse → s < W := fun s h => by
    rw [List.mem_reverse] at h
    obtain ⟨x, hx, rfl⟩ := List.mem_map.mp h
    exact hW x hx
  have subW : ∀ (cs : List Nat) (v : Vec), cs.Nodup → (∀ c, c ∈ cs → c < W) → nrm cs v ≤ nrm (List.range W) v := fun cs v nd h => nrm_sub nd fun x hx => List.mem_range.mpr (h x hx)
  have mapB : (hs.map fun h => B h.1) = (hs.map (·.1)).map B := by rw [List.map_map]; rfl
  have inm : ∀ i, i ∈ hs.map (·.1) → i < m := fun i hi => by obtain ⟨x, hx, rfl⟩ := List.mem_map.mp hi; exact L.hm x hx
  have prB : ∀ (cs : List Nat), cs.Nodup → (∀ c, c ∈ cs → c < W) → prodR ((hs.map fun h => B h.1).map (nrm cs)) ≤ prodR ((hs.map (·.1)).map Nm) := fun cs nd h => by
    rw [mapB, List.map_map]
    exact prodR_mono fun i hi => ⟨nrm_nn _ _, Rat.le_trans (subW cs _ nd h) (hN i (inm i hi)).2.1⟩
  have prH : prodR ((hs.map (·.1)).map Nm) ≤ prodR ((List.range m).map Nm) := prodR_sub L.nd (fun x hx => List.mem_range.mpr (inm x hx)) fun x hx => (hN x (List.mem_range.mp hx)).1
  have pr0 : 0 ≤ prodR ((hs.map (·.1)).map Nm) := prodR_nn fun x hx => by obtain ⟨i, hi, rfl⟩ := List.mem_map.mp hx; have := (hN i (inm i hi)).1; grind
  have vB : ∀ i c, i < (hs.map fun h => B h.1).length → c < W → isI (vat (hs.map fun h => B h.1) i c) := fun i c hi hc => by
    rw [List.length_map] at hi
    unfold vat
    rw [List.getD_eq_getElem?_getD, List.getElem?_map, List.getElem?_eq_getElem hi]
    exact S.int _ _ (L.hm _ (List.getElem_mem hi)) hc
  obtain ⟨y, hy⟩ := Dt_int (hs.map (·.2)).reverse (hs.map fun h => B h.1) fun i c hi hc => vB i c hi (inS c hc)
  have y0 : y ≠ 0 := fun z => L.det (by rw [hy, z]; rfl)
  have yr : (y : Rat) ≠ 0 := by rw [← hy]; exact L.det
  have ly : absV (y : Rat) ≤ prodR ((hs.map (·.1)).map Nm) := by
    rw [← hy]
    exact Rat.le_trans (Dt_le _ _) (prB _ ndS inS)
  have yE : y.natAbs < 2 ^ E := natAbs_lt (lt_le (Rat.le_trans ly prH) hP)
  have one : (1 : Int).natAbs < 2 ^ E := by
    have : (0 : Nat) < y.natAbs := by omega
    have h1 : (1 : Int).natAbs = 1 := rfl
    omega
  have ndc : ∀ c, c ∉ (hs.map (·.2)).reverse → (c :: (hs.map (·.2)).reverse).Nodup := fun c hc => List.nodup_cons.mpr ⟨hc, ndS⟩
  have inc : ∀ c, c < W → ∀ s, s ∈ c :: (hs.map (·.2)).reverse → s < W := fun c hc s hs' => by
    rcases List.mem_cons.mp hs' with rfl | h
    · exact hc
    · exact inS s h
  refine ⟨y, 0, y0, yE, fun h c hh hc => ?_, fun i hi hn => ?_⟩
  · by_cases hcS : c ∈ hs.map (·.2)
    · obtain ⟨x, hx, rfl⟩ := List.mem_map.mp hcS
      rw [L.un x hx h.1 (L.hm h hh)]
      by_cases e : h.1 = x.1
      · rw [if_pos e]; exact ⟨y, by rw [Rat.one_mul], yE⟩
      · rw [if_neg e]; exact ⟨0, by rw [Rat.zero_mul]; rfl, by have h1 : (0 : Int).natAbs = 0 := rfl; omega⟩
    · have hcS' : c ∉ (hs.map (·.2)).reverse := by rw [List.mem_reverse]; exact hcS
      have e := L.entryH hh (c := c) fun z : c = h.2 => hcS (by rw [z]; exact List.mem_map.mpr ⟨h, hh, rfl⟩)
      obtain ⟨x, hx⟩ := Dt_int (c :: (hs.map (·.2)).reverse) ((hs.map fun h => B h.1) ++ [fun k => if k = h.2 then 1 else 0]) fun i d hi hd => by
        rw [List.length_append, List.length_singleton] at hi
        by_cases q : i < (hs.map fun h => B h.1).length
        · rw [vat_app_l q]; exact vB i d q (inc c hc d hd)
        · have : i = (hs.map fun h => B h.1).length := by omega
          rw [this, vat_app_r]
          show isI (if d = h.2 then 1 else 0)
          split
          · exact isI_one
          · exact isI_zero
      have lx : absV (x : Rat) ≤ prodR ((hs.map (·.1)).map Nm) := by
        rw [← hx]
        refine Rat.le_trans (Dt_le _ _) ?_
        rw [List.map_append, prodR_app]
        have h1 := prB (c :: (hs.map (·.2)).reverse) (ndc c hcS') (inc c hc)
        have h2 := nrm_unit (s := h.2) (ndc c hcS')
        have h3 := nrm_nn (c :: (hs.map (·.2)).reverse) (fun k => if k = h.2 then 1 else 0)
        show _ * (nrm (c :: (hs.map (·.2)).reverse) (fun k => if k = h.2 then 1 else 0) * 1) ≤ _
        have h4 := Rat.mul_le_mul_of_nonneg_left h2 pr0
        have h5 := Rat.mul_le_mul_of_nonneg_right h1 h3
        grind
      rw [hx, hy] at e
      have s2 := sg_sq hs.length
      rcases (show sg hs.length = 1 ∨ sg hs.length = -1 by
        have : (sg hs.length - 1) * (sg hs.length + 1) = 0 := by grind
        rcases Rat.mul_eq_zero.mp this with z | z
        · left; grind
        · right; grind) with z | z
      · refine ⟨-x, ?_, ?_⟩
        · rw [z] at e; rw [Rat.intCast_neg]; grind
        · rw [Int.natAbs_neg]; exact natAbs_lt (lt_le (Rat.le_trans lx prH) hP)
      · exact ⟨x, by rw [z] at e; grind, natAbs_lt (lt_le (Rat.le_trans lx prH) hP)⟩
  · obtain ⟨hN1, hN2, N, N0, hN3, hN4⟩ := hN i hi
    have prI : prodR ((hs.map (·.1)).map Nm) * Nm i ≤ prodR ((List.range m).map Nm) := by
      have := prodR_sub (f := Nm) (l := hs.map (·.1) ++ [i]) (L := List.range m) (by
        rw [List.nodup_append]
        exact ⟨L.nd, by simp, fun p hp q hq => by rw [List.mem_singleton] at hq; rintro rfl; rw [hq] at hp; exact hn hp⟩) (fun p hp => by
        rcases List.mem_append.mp hp with hp | hp
        · exact List.mem_range.mpr (inm p hp)
        · rw [List.mem_singleton.mp hp]; exact List.mem_range.mpr hi) fun p hp => (hN p (List.mem_range.mp hp)).1
      rw [List.map_append, prodR_app] at this
      have e1 : prodR ([i].map Nm) = Nm i := by show Nm i * 1 = Nm i; grind
      rw [e1] at this
      exact this
    have lz : absV (((N : Int) * y : Int) : Rat) ≤ prodR ((hs.map (·.1)).map Nm) * Nm i := by
      rw [Rat.intCast_mul, absV_mul]
      have : absV ((N : Int) : Rat) ≤ Nm i := by
        have np : (0 : Rat) ≤ ((N : Int) : Rat) := by exact_mod_cast (show (0 : Int) ≤ (N : Int) by omega)
        unfold absV
        rw [if_neg (by grind)]
        exact hN3
      have := mul_mono (absV_nn ((N : Int) : Rat)) this (absV_nn (y : Rat)) ly
      grind
    have N1 : ((N : Int) : Rat) ≠ 0 := fun z => by
      have : (N : Int) = 0 := by exact_mod_cast z
      omega
    have z0 : (N : Int) * y ≠ 0 := Int.mul_ne_zero (by omega) y0
    refine ⟨(N : Int) * y, z0, natAbs_lt (lt_le (Rat.le_trans lz prI) hP), fun c hc => ?_⟩
    by_cases hcS : c ∈ hs.map (·.2)
    · obtain ⟨x, hx, rfl⟩ := List.mem_map.mp hcS
      rw [L.un x hx i hi, if_neg (fun z : i = x.1 => hn (by rw [z]; exact List.mem_map.mpr ⟨x, hx, rfl⟩))]
      exact ⟨0, by rw [Rat.zero_mul]; rfl, by have h1 : (0 : Int).natAbs = 0 := rfl; omega⟩
    · have hcS' : c ∉ (hs.map (·.2)).reverse := by rw [List.mem_reverse]; exact hcS
      have e := L.entry hi hn c
      obtain ⟨x, hx⟩ := Dt_int (c :: (hs.map (·.2)).reverse) ((hs.map fun h => B h.1) ++ [B i]) fun j d hj hd => by
        rw [List.length_append, List.length_singleton] at hj
        by_cases q : j < (hs.map fun h => B h.1).length
        · rw [vat_app_l q]; exact vB j d q (inc c hc d hd)
        · have : j = (hs.map fun h => B h.1).length := by omega
          rw [this, vat_app_r]
          exact S.int i d hi (inc c hc d hd)
      have lx : absV (x : Rat) ≤ prodR ((hs.map (·.1)).map Nm) * Nm i := by
        rw [← hx]
        refine Rat.le_trans (Dt_le _ _) ?_
        rw [List.map_append, prodR_app]
        have h1 := prB (c :: (hs.map (·.2)).reverse) (ndc c hcS') (inc c hc)
        have h2 : nrm (c :: (hs.map (·.2)).reverse) (B i) ≤ Nm i := Rat.le_trans (subW _ _ (ndc c hcS') (inc c hc)) hN2
        have h3 := nrm_nn (c :: (hs.map (·.2)).reverse) (B i)
        have e1 : prodR ([B i].map (nrm (c :: (hs.map (·.2)).reverse))) = nrm (c :: (hs.map (·.2)).reverse) (B i) := by
          show nrm (c :: (hs.map (·.2)).reverse) (B i) * 1 = _; grind
        rw [e1]
        refine mul_mono (prodR_nn fun p hp => ?_) h1 h3 h2
        obtain ⟨u, _, rfl⟩ := List.mem_map.mp hp
        exact nrm_nn _ _
      rw [hx, hy, hN4] at e
      have ni := Rat.inv_mul_cancel _ N1
      have s2 := sg_sq hs.length
      have fin : sg hs.length * line i c * (((N : Int) * y : Int) : Rat) = (x : Rat) := by
        rw [Rat.intCast_mul]
        have : sg hs.length * line i c * (((N : Int) : Rat) * (y : Rat)) = ((N : Int) : Rat) * (sg hs.length * line i c * (y : Rat)) := by grind
        rw [this, e]; grind
      rcases (show sg hs.length = 1 ∨ sg hs.length = -1 by
        have : (sg hs.length - 1) * (sg hs.length + 1) = 0 := by grind
        rcases Rat.mul_eq_zero.mp this with z | z
        · left; grind
        · right; grind) with z | z
      · exact ⟨x, by rw [z] at fin; grind, natAbs_lt (lt_le (Rat.le_trans lx prI) hP)⟩
      · exact ⟨-x, by rw [z] at fin; rw [Rat.intCast_neg]; grind, by rw [Int.natAbs_neg]; exact natAbs_lt (lt_le (Rat.le_trans lx prI) hP)⟩
theorem rb_frac {q : Rat} {x z : Int} {E : Nat} (z0 : z ≠ 0) (hz : z.natAbs < 2 ^ E) (h : q * (z : Rat) = (x : Rat)) (hx : x.natAbs < 2 ^ E) : RB E q := by
  have z1 : (z : Rat) ≠ 0 := fun e => z0 (by exact_mod_cast e)
  have e : q = Rat.divInt x z := by
    rw [divInt_mul, ← h, Rat.mul_assoc, Rat.mul_inv_cancel _ z1, Rat.mul_one]
  rw [e]
  exact rb_div hx hz z0
theorem El.rb (L : El m B a line hs) (S : Sm m W B a E) (hW : ∀ h, h ∈ hs → h.2 < W) {i c : Nat} (hi : i < m) (hc : c < W) : RB E (line i c) := by
  obtain ⟨y, _, y0, hy, h1, h2⟩ := L.size S hW
  by_cases hn : i ∈ hs.map (·.1)
  · obtain ⟨x, hx, rfl⟩ := List.mem_map.mp hn
    obtain ⟨z, e, hz⟩ := h1 x c hx hc
    exact rb_frac y0 hy e hz
  · obtain ⟨z, z0, hz, h3⟩ := h2 i hi hn
    obtain ⟨x, e, hx⟩ := h3 c hc
    exact rb_frac z0 hz e hx
end
def Sat (q : Nat) (x : Vec) (v : Vec) : Prop := (sumN q fun c => v c * x c) = v q
structure GS (m q : Nat) (R : Nat → Vec) (line : Nat → Vec) (hs : List (Nat × Nat)) (j : Nat) : Prop where
  sat : ∀ x : Vec, (∀ i, i < m → Sat q x (line i)) → ∀ i, i < m → Sat q x (R i)
  wt : ∀ i, i < m → ∀ k, k ≤ q → line i k = sumN m fun l => line i (q + 1 + l) * R l k
  done : ∀ i, i < m → i ∉ hs.map (·.1) → ∀ c, c < j → line i c = 0
  hlt : ∀ h, h ∈ hs → h.2 < j
section
variable {m q j : Nat} {R : Nat → Vec} {line : Nat → Vec} {hs : List (Nat × Nat)}
theorem GS.init (h : ∀ i l, i < m → l < m → R i (q + 1 + l) = if i = l then 1 else 0) : GS m q R R [] 0 where
  sat := fun x h => h
  wt := fun i hi k hk => by
    rw [sumN_one (p := i) hi fun l hl hne => by rw [h i l hi hl, if_neg (fun z => hne z.symm), Rat.zero_mul], h i i hi hi, if_pos rfl, Rat.one_mul]
  done := fun _ _ _ _ h => by omega
  hlt := fun _ h => (List.not_mem_nil h).elim
theorem Sat.lin {x u v : Vec} (a b : Rat) (hu : Sat q x u) (hv : Sat q x v) : Sat q x fun k => a * u k + b * v k := by
  unfold Sat at *
  show _ = a * u q + b * v q
  rw [← hu, ← hv, ← sumN_mul, ← sumN_mul, ← sumN_add]
  exact sumN_congr fun i hi => by grind
theorem GS.pivot (G : GS m q R line hs j) {pos : Nat} (hp : pos < m) (hn : pos ∉ hs.map (·.1)) (h0 : line pos j ≠ 0) : GS m q R (pivL line pos j) (hs ++ [(pos, j)]) (j + 1) := by
  have pinv := Rat.mul_inv_cancel _ h0
  refine ⟨fun x hx i hi => G.sat x (fun i hi => ?_) i hi, fun i hi k hk => ?_, fun i hi hni c hc => ?_, fun h hh => ?_⟩
  · have h1 := hx pos hp
    by_cases e : i = pos
    · subst e
      have := Sat.lin (line i j) 0 h1 h1
      have e2 : (fun k => line i j * pivL line i j i k + 0 * pivL line i j i k) = line i := by
        funext k; unfold pivL; rw [if_pos rfl, Rat.div_def]; grind
      rw [e2] at this
      exact this
    · have := Sat.lin 1 (line i j) (hx i hi) h1
      have e2 : (fun k => 1 * pivL line pos j i k + line i j * pivL line pos j pos k) = line i := by
        funext k; unfold pivL; rw [if_neg e, if_pos rfl]; grind
      rw [e2] at this
      exact this
  · have w1 := G.wt pos hp k hk
    have w2 := G.wt i hi k hk
    unfold pivL
    by_cases e : i = pos
    · simp only [e, if_true]
      rw [w1, Rat.div_def, Rat.mul_comm, ← sumN_mul]
      exact sumN_congr fun l hl => by rw [Rat.div_def]; grind
    · simp only [e, if_false]
      have : (sumN m fun l => (line i (q + 1 + l) - line i j * (line pos (q + 1 + l) / line pos j)) * R l k) = sumN m (fun l => line i (q + 1 + l) * R l k) + (-(line i j / line pos j)) * sumN m fun l => line pos (q + 1 + l) * R l k := by
        rw [← sumN_mul, ← sumN_add]
        exact sumN_congr fun l hl => by rw [Rat.div_def, Rat.div_def]; grind
      rw [this, ← w1, ← w2, Rat.div_def, Rat.div_def]; grind
  · rw [List.map_append, List.mem_append, not_or] at hni
    have ip : i ≠ pos := fun z => hni.2 (by simp [z])
    unfold pivL
    rw [if_neg ip]
    by_cases cj : c = j
    · subst cj; rw [Rat.div_def]; grind
    · rw [G.done i hi hni.1 c (by omega), G.done pos hp hn c (by omega), Rat.div_def]; grind
  · rcases List.mem_append.mp hh with hh | hh
    · have := G.hlt h hh; omega
    · rw [List.mem_singleton.mp hh]; exact Nat.lt_succ_self j
theorem GS.skip (G : GS m q R line hs j) (h : ∀ i, i < m → i ∉ hs.map (·.1) → line i j = 0) : GS m q R line hs (j + 1) :=
  ⟨G.sat, G.wt, fun i hi hn c hc => by
    by_cases e : c = j
    · rw [e]; exact h i hi hn
    · exact G.done i hi hn c (by omega), fun x hx => by have := G.hlt x hx; omega⟩
theorem GS.cert (G : GS m q R line hs q) {i : Nat} (hi : i < m) (h1 : line i q ≠ 0) (h2 : ∀ c, c < q → line i c = 0) :
    (∀ k, k < q → (sumN m fun l => line i (q + 1 + l) * R l k) = 0) ∧ (sumN m fun l => line i (q + 1 + l) * R l q) ≠ 0 :=
  ⟨fun k hk => by rw [← G.wt i hi k (by omega)]; exact h2 k hk, by rw [← G.wt i hi q (Nat.le_refl _)]; exact h1⟩
theorem GS.sol {B : Nat → Vec} {a : Nat → Rat} (G : GS m q R line hs q) (E : El m B a line hs) (hno : ∀ i, i < m → (∀ c, c < q → line i c = 0) → line i q = 0) {x : Vec} (hx : ∀ h, h ∈ hs → x h.2 = line h.1 q) (hz : ∀ c, c < q → c ∉ hs.map (·.2) → x c = 0) :
    ∀ i, i < m → Sat q x (R i) := by
  refine G.sat x fun i hi => ?_
  unfold Sat
  by_cases hn : i ∈ hs.map (·.1)
  · obtain ⟨h, hh, rfl⟩ := List.mem_map.mp hn
    rw [sumN_one (p := h.2) (G.hlt h hh) fun c hc hne => ?_]
    · rw [E.un h hh h.1 hi, if_pos rfl, hx h hh, Rat.one_mul]
    · by_cases cs : c ∈ hs.map (·.2)
      · obtain ⟨h', hh', rfl⟩ := List.mem_map.mp cs
        rw [E.un h' hh' h.1 hi, if_neg, Rat.zero_mul]
        intro z
        exact hne (by rw [nodup_inj E.nd hh hh' z])
      · rw [hz c hc cs, Rat.mul_zero]
  · have z := G.done i hi hn
    rw [hno i hi z]
    exact sumN_zero fun c hc => by rw [z c hc, Rat.zero_mul]
end
theorem El.init {m : Nat} {B : Nat → Vec} {a : Nat → Rat} {line : Nat → Vec} (h : ∀ i, i < m → ∀ k, line i k = a i * B i k) : El m B a line [] where
  hm := fun _ h => (List.not_mem_nil h).elim
  nd := List.nodup_nil
  nd2 := List.nodup_nil
  non := fun i hi _ => ⟨fun _ => 0, fun k => by rw [h i hi k]; show _ = _ + 0; grind⟩
  hom := fun _ h => (List.not_mem_nil h).elim
  un := fun _ h => (List.not_mem_nil h).elim
  det := by show (1 : Rat) ≠ 0; decide +kernel
theorem solA_g {M : List (List Rat)} {s1 s2 : Slot} {k : Nat} {r : List Rat} {t : Rat} {acc : List (List Rat)} {post : En} {g : Rng} (hM : M.length ≤ 100) (hr : r.length ≤ 100) (ha : acc.length < 100) :
    solA (.sh (matD M) :: s1 :: s2 :: .ow (acc.map vecD) :: .sh (.int k) :: .sh (vecD r) :: .sh (frD t) :: post) g = .ok (.nx (.sh (matD M) :: s1 :: s2 :: .ow ((acc ++ [lineR M.length k r t]).map vecD) :: .sh (.int k) :: .sh (vecD r) :: .sh (frD t) :: post) g) := by
  have u := unit_ok (n := M.length) (pos := k) (by omega)
  have d1 : dList [vecD r] = .ok (.lst (r.map frD)) := rfl
  have d2 : dLen [matD M] = .ok (.int M.length) := by
    unfold matD
    simp
  have a1 : dAdd (.lst (r.map frD)) (.lst [frD t]) = .ok (.lst (r.map frD ++ [frD t])) := dAdd_ll (by simp; omega)
  have a2 : dAdd (.lst (r.map frD ++ [frD t])) (vecD (unitR M.length k)) = .ok (.lst (r.map frD ++ [frD t] ++ (unitR M.length k).map frD)) := dAdd_ll (by unfold unitR; simp; omega)
  have u' : m_unit_row [.int M.length, .int k] = .ok (vecD (unitR M.length k)) := u
  unfold solA sApp
  simp [d1, d2, u', a1, show acc.length < 1000 by omega]
  have a2' := a2
  simp only [List.append_assoc, List.singleton_append] at a2'
  rw [a2']
  simp [lineR, vecD, unitR]
theorem solA_lg {M : List (List Rat)} {s1 s2 : Slot} {post : En} {g : Rng} (hM : M.length ≤ 100) : ∀ (l : List (List Rat × Rat)) (k : Nat) (acc : List (List Rat)) (s4 s5 s6 : Slot), s4.isOw = false → s5.isOw = false → s6.isOw = false → (∀ p, p ∈ l → p.1.length ≤ 100) → acc.length + l.length ≤ 100 →
    ∃ s4' s5' s6' : Slot, s4'.isOw = false ∧ s5'.isOw = false ∧ s6'.isOw = false ∧ forL solTfA solA (pairsD k l) (.sh (matD M) :: s1 :: s2 :: .ow (acc.map vecD) :: s4 :: s5 :: s6 :: post) g = .ok (.nx (.sh (matD M) :: s1 :: s2 :: .ow ((acc ++ linesF M.length k l).map vecD) :: s4' :: s5' :: s6' :: post) g)
  | [], k, acc, s4, s5, s6, h4, h5, h6, _, _ => ⟨s4, s5, s6, h4, h5, h6, by simp [pairsD, linesF, forL]⟩
  | p :: l, k, acc, s4, s5, s6, h4, h5, h6, hp, hl => by
    rw [List.length_cons] at hl
    obtain ⟨t4, t5, t6, i4, i5, i6, ih⟩ := solA_lg (s1 := s1) (s2 := s2) (post := post) (g := g) hM l (k + 1) (acc ++ [lineR M.length k p.1 p.2]) (.sh (.int k)) (.sh (vecD p.1)) (.sh (frD p.2)) rfl rfl rfl (fun q hq => hp q (List.mem_cons_of_mem _ hq)) (by rw [List.length_append, List.length_singleton]; omega)
    refine ⟨t4, t5, t6, i4, i5, i6, ?_⟩
    have tf : solTfA (.tup [.int (k : Nat), .tup [vecD p.1, frD p.2]]) (.sh (matD M) :: s1 :: s2 :: .ow (acc.map vecD) :: s4 :: s5 :: s6 :: post) = some (.sh (matD M) :: s1 :: s2 :: .ow (acc.map vecD) :: .sh (.int (k : Nat)) :: .sh (vecD p.1) :: .sh (frD p.2) :: post) := rfl
    rw [pairsD, forL]
    simp only [tf]
    rw [solA_g hM (hp p List.mem_cons_self) (by omega)]
    simp only [bind_ok]
    rw [ih, linesF, List.append_assoc, List.singleton_append]
theorem shape_gen {M : List (List Rat)} {ts : List Rat} {w : Nat} (hm1 : 1 ≤ M.length) (hm : M.length ≤ 100) (hw : ∀ r, r ∈ M → r.length = w) (hw9 : w ≤ 900) (ht : ts.length = M.length) (c : List D → D) (hc : c = .lst ∨ c = .tup) (f : List Rat → D) (hf : (∀ r, f r = .lst (r.map frD)) ∨ ∀ r, f r = .tup (r.map frD)) : m_check_shape [c (M.map f), c (ts.map frD)] = .ok .non := by
  have len : ∀ r, r ∈ M → dLen [f r] = .ok (.int w) := fun r hr => by
    rcases hf with hf | hf
    · rw [hf]; simp [hw r hr]
    · rw [hf]; simp [hw r hr]
  have lenc : ∀ l : List D, dLen [c l] = .ok (.int l.length) := fun l => by rcases hc with rfl | rfl <;> simp
  have ixc : ∀ (l : List D) (d : D), dIx (c (d :: l)) (.int 0) = .ok d := fun l d => by rcases hc with rfl | rfl <;> simp [atI, ixN]
  have enc : ∀ l : List D, dEnum [c l] = .ok (enumD 0 l) := fun l => by
    rcases hc with rfl | rfl
    · show Res.ok _ = Res.ok _
      unfold enumD
      simp
    · show Res.ok _ = Res.ok _
      unfold enumD
      simp
  rw [m_check_shape, runD, if_pos (by rfl)]
  show resD (b_check_shape [.sh (c (M.map f)), .sh (c (ts.map frD)), .un, .un] g0) = _
  have hM : ∃ r0 M0, M = r0 :: M0 := by
    have := hm1
    cases M with
    | nil => simp at this
    | cons r0 M0 => exact ⟨r0, M0, rfl⟩
  obtain ⟨r0, M0, rfl⟩ := hM
  have loop : ∀ (L : List (List Rat)) (k : Nat) (s2 s3 : Slot), (∀ r, r ∈ L → r ∈ r0 :: M0) → ∃ s2' s3', forL (gTp 2 (gsCons (gNm 2) (gsCons (gNm 3) gsNil))) (sIf (eTest (eOp dNe (eCall dLen (aCons (eVar 3) aNil)) (eCall dLen (aCons (eOp dIx (eVar 0) (eC (.int 0))) aNil)))) sBad sNx) (enumD k (L.map f)) [.sh (c ((r0 :: M0).map f)), .sh (c (ts.map frD)), s2, s3] g0 = .ok (.nx [.sh (c ((r0 :: M0).map f)), .sh (c (ts.map frD)), s2', s3'] g0) := by
    intro L
    induction L with
    | nil => intro k s2 s3 _; exact ⟨s2, s3, by simp [forL, enumD]⟩
    | cons r L ih =>
      intro k s2 s3 hs
      obtain ⟨t2, t3, e⟩ := ih (k + 1) (.sh (.int k)) (.sh (f r)) fun x hx => hs x (List.mem_cons_of_mem _ hx)
      refine ⟨t2, t3, ?_⟩
      have tf : (gTp 2 (gsCons (gNm 2) (gsCons (gNm 3) gsNil))) (.tup [.int (k : Nat), f r]) [.sh (c ((r0 :: M0).map f)), .sh (c (ts.map frD)), s2, s3] = some [.sh (c ((r0 :: M0).map f)), .sh (c (ts.map frD)), .sh (.int (k : Nat)), .sh (f r)] := rfl
      have l1 := len r (hs r List.mem_cons_self)
      have l2 := len r0 List.mem_cons_self
      rw [List.map_cons, enumD_cons, forL]
      simp only [tf]
      have b : (sIf (eTest (eOp dNe (eCall dLen (aCons (eVar 3) aNil)) (eCall dLen (aCons (eOp dIx (eVar 0) (eC (.int 0))) aNil)))) sBad sNx) [.sh (c ((r0 :: M0).map f)), .sh (c (ts.map frD)), .sh (.int (k : Nat)), .sh (f r)] g0 = .ok (.nx [.sh (c ((r0 :: M0).map f)), .sh (c (ts.map frD)), .sh (.int (k : Nat)), .sh (f r)] g0) := by
        have i0 := ixc (M0.map f) (f r0)
        simp [l1, l2, i0]
      rw [b]
      simp only [bind_ok]
      exact e
  obtain ⟨s2, s3, e⟩ := loop (r0 :: M0) 0 .un .un fun r h => h
  have hb : b_check_shape = sSeq (sFor (iEnumD (aCons (eVar 0) aNil)) (gTp 2 (gsCons (gNm 2) (gsCons (gNm 3) gsNil))) (sIf (eTest (eOp dNe (eCall dLen (aCons (eVar 3) aNil)) (eCall dLen (aCons (eOp dIx (eVar 0) (eC (.int 0))) aNil)))) sBad sNx)) (sIf (eTest (eOp dNe (eCall dLen (aCons (eVar 1) aNil)) (eCall dLen (aCons (eVar 0) aNil)))) sBad sNx) := rfl
  rw [hb, sSeq_, sFor_]
  simp only [iEnumD_, aCons_, aNil_, eVar_, List.getElem?_cons_zero, bind_ok, enc]
  rw [e]
  simp only [bind_ok, seqK_nx]
  have t1 := ht
  have lm := lenc (f r0 :: M0.map f)
  have lt := lenc (ts.map frD)
  simp only [List.length_cons, List.length_map] at lm lt
  rw [Int.natCast_add] at lm
  simp [lm, lt, t1]
theorem dMem_ints {k : Nat} {l : List Nat} : dMem (.int (k : Nat)) (l.map fun i => D.int (i : Nat)) = decide (k ∈ l) := by
  unfold dMem
  rw [Bool.eq_iff_iff, List.any_eq_true, decide_eq_true_iff]
  constructor
  · rintro ⟨x, hx, he⟩
    obtain ⟨i, hi, rfl⟩ := List.mem_map.mp hx
    simp [D.py, PyData.eqv] at he
    have : i = k := by omega
    rw [← this]; exact hi
  · intro h
    exact ⟨_, List.mem_map.mpr ⟨k, h, rfl⟩, by simp [D.py, PyData.eqv]⟩
def lnV (L : List (List Rat)) : Nat → Vec := fun i k => rAt (lAt L i) k
theorem lAt_idx {f : Nat → List Rat → List Rat} {L : List (List Rat)} {i : Nat} (h : i < L.length) : lAt (L.mapIdx f) i = f i (lAt L i) := by
  unfold lAt
  rw [List.getD_eq_getElem?_getD, List.getD_eq_getElem?_getD, List.getElem?_mapIdx, List.getElem?_eq_getElem h]
  rfl
theorem lAt_out {L : List (List Rat)} {i : Nat} (h : L.length ≤ i) : lAt L i = [] := by
  unfold lAt
  rw [List.getD_eq_getElem?_getD, List.getElem?_eq_none h]
  rfl
theorem rAt_out {r : List Rat} {k : Nat} (h : r.length ≤ k) : rAt r k = 0 := by
  unfold rAt
  rw [List.getD_eq_getElem?_getD, List.getElem?_eq_none h]
  rfl
theorem rAt_map {f : Rat → Rat} (f0 : f 0 = 0) (r : List Rat) (k : Nat) : rAt (r.map f) k = f (rAt r k) := by
  unfold rAt
  rw [List.getD_eq_getElem?_getD, List.getD_eq_getElem?_getD, List.getElem?_map]
  cases r[k]? with
  | none => exact f0.symm
  | some q => rfl
theorem rAt_zip {f : Rat × Rat → Rat} (f0 : f (0, 0) = 0) {r s : List Rat} (h : r.length = s.length) (k : Nat) : rAt ((r.zip s).map f) k = f (rAt r k, rAt s k) := by
  by_cases c : k < r.length
  · unfold rAt
    rw [List.getD_eq_getElem?_getD, List.getD_eq_getElem?_getD, List.getD_eq_getElem?_getD, List.getElem?_eq_getElem (by simpa [h] using (h ▸ c)), List.getElem?_eq_getElem c, List.getElem?_eq_getElem (by omega)]
    simp
  · rw [rAt_out (by simp; omega), rAt_out (r := r) (by omega), rAt_out (r := s) (by omega), f0]
theorem rAt_app_l {r s : List Rat} {k : Nat} (h : k < r.length) : rAt (r ++ s) k = rAt r k := by
  unfold rAt
  rw [List.getD_eq_getElem?_getD, List.getD_eq_getElem?_getD, List.getElem?_append_left h]
theorem rAt_app_r {r s : List Rat} {k : Nat} (h : r.length ≤ k) : rAt (r ++ s) k = rAt s (k - r.length) := by
  unfold rAt
  rw [List.getD_eq_getElem?_getD, List.getD_eq_getElem?_getD, List.getElem?_append_right h]
theorem mem_rAt {r : List Rat} {q : Rat} (h : q ∈ r) : ∃ k, k < r.length ∧ q = rAt r k := by
  obtain ⟨k, hk, e⟩ := List.getElem_of_mem h
  refine ⟨k, hk, ?_⟩
  unfold rAt
  rw [List.getD_eq_getElem?_getD, List.getElem?_eq_getElem hk]
  exact e.symm
theorem mem_lAt {L : List (List Rat)} {r : List Rat} (h : r ∈ L) : ∃ k, k < L.length ∧ r = lAt L k := by
  obtain ⟨k, hk, e⟩ := List.getElem_of_mem h
  refine ⟨k, hk, ?_⟩
  unfold lAt
  rw [List.getD_eq_getElem?_getD, List.getElem?_eq_getElem hk]
  exact e.symm
theorem rAt_set {r : List Rat} {s k : Nat} {x : Rat} (h : s < r.length) : rAt (r.set s x) k = if k = s then x else rAt r k := by
  unfold rAt
  rw [List.getD_eq_getElem?_getD, List.getD_eq_getElem?_getD, List.getElem?_set]
  by_cases c : s = k
  · rw [if_pos c, if_pos c.symm, if_pos (by omega)]; rfl
  · rw [if_neg c, if_neg (fun z => c z.symm)]
theorem pivR_lnV {L : List (List Rat)} {pos spot w : Nat} (hp : pos < L.length) (hL : ∀ r, r ∈ L → r.length = w) : lnV (pivR L pos spot) = pivL (lnV L) pos spot := by
  funext i
  by_cases hi : i < L.length
  · unfold lnV pivR pivL
    simp only [lAt_idx hi]
    unfold pivF
    by_cases e : i = pos
    · rw [if_pos e, if_pos e]
      funext k
      unfold hereR
      rw [rAt_map (by rw [Rat.div_def, Rat.zero_mul])]
    · rw [if_neg e, if_neg e]
      funext k
      have hh : ∀ k, rAt (hereR L pos spot) k = rAt (lAt L pos) k / rAt (lAt L pos) spot := fun k => by
        unfold hereR
        rw [rAt_map (by rw [Rat.div_def, Rat.zero_mul])]
      split
      · rename_i z
        rw [z]; grind
      · rw [rAt_zip (by grind) (by rw [hL _ (lAt_mem hi)]; unfold hereR; rw [List.length_map, hL _ (lAt_mem hp)]), hh]
  · funext k
    have z : ∀ k, rAt [] k = 0 := fun k => rAt_out (Nat.zero_le _)
    have ip : i ≠ pos := by omega
    unfold pivL
    rw [if_neg ip]
    show rAt (lAt (pivR L pos spot) i) k = rAt (lAt L i) k - rAt (lAt L i) spot * (lnV L pos k / lnV L pos spot)
    rw [lAt_out (by unfold pivR; rw [List.length_mapIdx]; omega), lAt_out (L := L) (i := i) (by omega), z, z]
    grind
theorem pivot_gen {L : List (List Rat)} {pos spot b w : Nat} (hp : pos < L.length) (hs : spot < w) (hL : ∀ r, r ∈ L → r.length = w ∧ ∀ q, q ∈ r → RB b q) (hh : ∀ q, q ∈ hereR L pos spot → RB b q) (hw : w ≤ 1000) (hl : L.length ≤ 1000) (hb : 3 * b + 2 ≤ 8990) (hz : rAt (lAt L pos) spot ≠ 0) :
    m_pivot [matD L, .int pos, .int spot] = .ok (matD (pivR L pos spot)) ∧ ∀ r, r ∈ pivR L pos spot → r.length = w := by
  have hr := hL _ (lAt_mem hp)
  have hsr : spot < (lAt L pos).length := by rw [hr.1]; exact hs
  have hpv := rAt_mem hsr
  have hlen : (hereR L pos spot).length = w := by unfold hereR; rw [List.length_map]; exact hr.1
  constructor
  · rw [m_pivot, runF, runD, if_pos (by rfl)]
    show onlyL (resD (b_pivot [.sh (matD L), .sh (.int pos), .sh (.int spot), .un, .un, .un, .un] g0)) = _
    have hbd : b_pivot = sSeq (sNoRt (sAsg 3 (eCall m_scaled (aCons (eOp dIx (eVar 0) (eVar 1)) (aCons (eOp dIx (eOp dIx (eVar 0) (eVar 1)) (eVar 2)) aNil))))) (sSeq (sNoRt (sAsgF 4 (aLst aNil))) (sSeq (sNoRt (sFor (iEnumD (aCons (eVar 0) aNil)) pivTf pivB)) (sRetO 4))) := rfl
    rw [hbd]
    have i1 : dIx (matD L) (.int pos) = .ok (vecD (lAt L pos)) := by unfold matD; rw [dIx_lst, rw_at hp]
    have i2 : dIx (vecD (lAt L pos)) (.int spot) = .ok (frD (rAt (lAt L pos) spot)) := by unfold vecD; rw [dIx_lst, fr_at hsr]
    have sc := scaled_ok (r := lAt L pos) (p := rAt (lAt L pos) spot) hr.2 (hr.2 _ hpv) hz (by rw [hr.1]; exact hw) (by omega)
    have en : dEnum [matD L] = .ok (enumD 0 (L.map vecD)) := by
      show Res.ok _ = Res.ok _
      unfold enumD
      simp
    obtain ⟨s5, s6, lp⟩ := piv_loop (s0 := .sh (matD L)) (pos := pos) hs hh hw hb L 0 [] .un .un hL (by simpa using hl)
    have st1 : sNoRt (sAsg 3 (eCall m_scaled (aCons (eOp dIx (eVar 0) (eVar 1)) (aCons (eOp dIx (eOp dIx (eVar 0) (eVar 1)) (eVar 2)) aNil)))) [.sh (matD L), .sh (.int pos), .sh (.int spot), .un, .un, .un, .un] g0 = .ok (.nx [.sh (matD L), .sh (.int pos), .sh (.int spot), .sh (vecD (hereR L pos spot)), .un, .un, .un] g0) := by
      unfold sNoRt
      simp [i1, i2, sc]
      rfl
    have st2 : sNoRt (sAsgF 4 (aLst aNil)) [.sh (matD L), .sh (.int pos), .sh (.int spot), .sh (vecD (hereR L pos spot)), .un, .un, .un] g0 = .ok (.nx [.sh (matD L), .sh (.int pos), .sh (.int spot), .sh (vecD (hereR L pos spot)), .ow [], .un, .un] g0) := by
      unfold sNoRt
      simp
    have st3 : sNoRt (sFor (iEnumD (aCons (eVar 0) aNil)) pivTf pivB) [.sh (matD L), .sh (.int pos), .sh (.int spot), .sh (vecD (hereR L pos spot)), .ow [], .un, .un] g0 = .ok (.nx [.sh (matD L), .sh (.int pos), .sh (.int spot), .sh (vecD (hereR L pos spot)), .ow ((pivR L pos spot).map vecD), s5, s6] g0) := by
      unfold sNoRt
      have hf : sFor (iEnumD (aCons (eVar 0) aNil)) pivTf pivB [.sh (matD L), .sh (.int pos), .sh (.int spot), .sh (vecD (hereR L pos spot)), .ow [], .un, .un] g0 = .ok (.nx [.sh (matD L), .sh (.int pos), .sh (.int spot), .sh (vecD (hereR L pos spot)), .ow ((pivR L pos spot).map vecD), s5, s6] g0) := by
        rw [sFor_]
        simp only [iEnumD_, aCons_, aNil_, eVar_, List.getElem?_cons_zero, bind_ok, en]
        have lp' := lp
        simp only [List.map_nil, List.nil_append, Nat.zero_add] at lp'
        rw [lp']
        rfl
      rw [hf]
    rw [sSeq_, st1, bind_ok, seqK_nx, sSeq_, st2, bind_ok, seqK_nx, sSeq_, st3, bind_ok, seqK_nx]
    simp [sRetO, resD, onlyL, matD]
  · intro r h
    unfold pivR at h
    obtain ⟨i, hi, rfl⟩ := List.mem_mapIdx.mp h
    unfold pivF
    have hi' := hL _ (List.getElem_mem hi)
    split
    · exact hlen
    · split
      · exact hi'.1
      · rw [List.length_map, List.length_zip, hi'.1, hlen, Nat.min_self]
structure EI (m q E : Nat) (R : Nat → Vec) (L : List (List Rat)) (hs : List (Nat × Nat)) (j : Nat) : Prop where
  len : L.length = m
  row : ∀ r, r ∈ L → r.length = q + 1 + m
  gs : GS m q R (lnV L) hs j
  el : ∃ (B : Nat → Vec) (a : Nat → Rat), El m B a (lnV L) hs ∧ Sm m (q + 1 + m) B a E
theorem Sm.ne {m W E : Nat} {B : Nat → Vec} {a : Nat → Rat} (S : Sm m W B a E) {i : Nat} (hi : i < m) : a i ≠ 0 := by
  obtain ⟨Nm, hN, _⟩ := S.ex
  obtain ⟨_, _, N, n0, _, e⟩ := hN i hi
  rw [e]
  have : 0 < ((N : Int) : Rat) := by
    have : ((0 : Int) : Rat) = 0 := rfl
    rw [← this]; exact_mod_cast n0
  have := Rat.inv_pos.mpr this
  grind
theorem EI.rb {m q E j : Nat} {R : Nat → Vec} {L : List (List Rat)} {hs : List (Nat × Nat)} (I : EI m q E R L hs j) (hj : j ≤ q) : ∀ r, r ∈ L → r.length = q + 1 + m ∧ ∀ x, x ∈ r → RB E x := fun r hr => by
  refine ⟨I.row r hr, fun x hx => ?_⟩
  obtain ⟨i, hi, rfl⟩ := mem_lAt hr
  obtain ⟨k, hk, rfl⟩ := mem_rAt hx
  obtain ⟨B, a, e, s⟩ := I.el
  have hil := I.len
  rw [I.row _ hr] at hk
  exact e.rb s (fun h hh => by have := I.gs.hlt h hh; omega) (by omega) hk
theorem EI.pivot {m q E j : Nat} {R : Nat → Vec} {L : List (List Rat)} {hs : List (Nat × Nat)} (I : EI m q E R L hs j) (hj : j < q) {pos : Nat} (hp : pos < m) (hn : pos ∉ hs.map (·.1)) (h0 : rAt (lAt L pos) j ≠ 0) :
    (∀ x, x ∈ hereR L pos j → RB E x) ∧ EI m q E R (pivR L pos j) (hs ++ [(pos, j)]) (j + 1) := by
  obtain ⟨B, a, e, s⟩ := I.el
  have hpL : pos < L.length := by rw [I.len]; exact hp
  have eL := pivR_lnV (spot := j) hpL I.row
  have e' := e.step hp hn h0 (s.ne hp)
  have g' := I.gs.pivot hp hn h0
  rw [← eL] at e' g'
  have hlt : ∀ h, h ∈ hs ++ [(pos, j)] → h.2 < q + 1 + m := fun h hh => by have := g'.hlt h hh; omega
  have lenR : (pivR L pos j).length = m := by unfold pivR; rw [List.length_mapIdx]; exact I.len
  have hlen : (hereR L pos j).length = q + 1 + m := by unfold hereR; rw [List.length_map]; exact I.row _ (lAt_mem hpL)
  refine ⟨fun x hx => ?_, lenR, fun r hr => ?_, g', B, a, e', s⟩
  · obtain ⟨k, hk, rfl⟩ := mem_rAt hx
    have r := e'.rb s hlt hp (c := k) (by omega)
    have : lnV (pivR L pos j) pos k = rAt (hereR L pos j) k := by
      unfold lnV pivR
      rw [lAt_idx hpL]
      unfold pivF
      rw [if_pos rfl]
    rw [this] at r
    exact r
  · unfold pivR at hr
    obtain ⟨i, hi, rfl⟩ := List.mem_mapIdx.mp hr
    unfold pivF
    have hi' := I.row _ (List.getElem_mem hi)
    split
    · exact hlen
    · split
      · exact hi'
      · rw [List.length_map, List.length_zip, hi', hlen, Nat.min_self]
def SolG (m q E : Nat) (R : Nat → Vec) (d : D) : Prop :=
  (∃ x : List Rat, d = .tup [.str "solution", vecD x] ∧ x.length = q ∧ (∀ i, i < m → Sat q (rAt x) (R i)) ∧ ∃ y : Int, y ≠ 0 ∧ y.natAbs < 2 ^ E ∧ ∀ c, ∃ z : Int, rAt x c * (y : Rat) = (z : Rat) ∧ z.natAbs < 2 ^ E) ∨
  ∃ c : List Rat, d = .tup [.str "certificate", vecD c] ∧ c.length = m ∧ (∀ k, k < q → (sumN m fun l => rAt c l * R l k) = 0) ∧ (sumN m fun l => rAt c l * R l q) ≠ 0 ∧ ∀ x, x ∈ c → RB E x
theorem solB3_g {s0 s1 s2 s4 s5 s6 s9 s10 s11 s13 s14 : Slot} {m q E j : Nat} {R : Nat → Vec} {L : List (List Rat)} {hs : List (Nat × Nat)} {fs : List Nat} {g : Rng} (I : EI m q E R L hs j) (hj : j < q) (hq : q + 1 + m ≤ 1000) (hb : 3 * E + 2 ≤ 8990)
    (hf : fs = ((idxL L).filter (keepP j (hs.map (·.1)))).map (·.1)) (hh : hs.length < 1000) :
    ∃ (L' : List (List Rat)) (hs' : List (Nat × Nat)), solB3 [s0, s1, s2, .sh (matD L), s4, s5, s6, .ow (hs.map homeD), .sh (.int j), s9, s10, s11, .sh (.lst (fs.map fun i => D.int (i : Nat))), s13, s14] g = .ok (.nx [s0, s1, s2, .sh (matD L'), s4, s5, s6, .ow (hs'.map homeD), .sh (.int j), s9, s10, s11, .sh (.lst (fs.map fun i => D.int (i : Nat))), s13, s14] g) ∧
      EI m q E R L' hs' (j + 1) ∧ hs'.length ≤ hs.length + 1 := by
  have ll := I.len
  have fl : fs.length ≤ 1000 := by
    rw [hf, List.length_map]
    exact Nat.le_trans (List.length_filter_le _ _) (by rw [idxL_len]; omega)
  have ne := dNe_nil (n := 3) (l := fs.map fun i => D.int (i : Nat)) (eqOk_ints fl) (by decide)
  unfold solB3
  cases fs with
  | nil =>
    refine ⟨L, hs, ?_, ⟨I.len, I.row, I.gs.skip fun i hi hn => ?_, I.el⟩, by omega⟩
    · simp only [List.map_nil] at ne ⊢
      simp [ne]
    · refine Classical.byContradiction fun z => ?_
      have : (i, lAt L i) ∈ (idxL L).filter (keepP j (hs.map (·.1))) := by
        refine List.mem_filter.mpr ⟨?_, ?_⟩
        · unfold idxL
          refine List.mem_mapIdx.mpr ⟨i, by omega, ?_⟩
          unfold lAt
          rw [List.getD_eq_getElem?_getD, List.getElem?_eq_getElem (by omega)]
          rfl
        · unfold keepP
          rw [dMem_ints, decide_eq_false hn]
          show (!false && !decide (rAt (lAt L i) j = 0)) = true
          have z' : ¬ rAt (lAt L i) j = 0 := z
          rw [decide_eq_false z']
          rfl
      have := List.mem_map_of_mem (f := (·.1)) this
      rw [← hf] at this
      exact List.not_mem_nil this
  | cons p fs =>
    have pm : p ∈ ((idxL L).filter (keepP j (hs.map (·.1)))).map (·.1) := by rw [← hf]; exact List.mem_cons_self
    obtain ⟨x, hx, rfl⟩ := List.mem_map.mp pm
    obtain ⟨hx1, hx2⟩ := List.mem_filter.mp hx
    obtain ⟨y1, y2⟩ := idxL_mem hx1
    unfold keepP at hx2
    rw [dMem_ints, Bool.and_eq_true, Bool.not_eq_true', Bool.not_eq_true', decide_eq_false_iff_not, decide_eq_false_iff_not, y2] at hx2
    obtain ⟨b1, b2⟩ := I.pivot hj (by omega) hx2.1 hx2.2
    obtain ⟨e1, _⟩ := pivot_gen (w := q + 1 + m) y1 (by omega) (I.rb (by omega)) b1 (by omega) (by omega) hb hx2.2
    refine ⟨pivR L x.1 j, hs ++ [(x.1, j)], ?_, b2, by simp⟩
    rw [List.map_cons] at ne ⊢
    have a0 : atI (D.int (x.1 : Nat) :: fs.map fun i => D.int (i : Nat)) 0 = some (.int (x.1 : Nat)) := by simp [atI, ixN]
    simp [ne, a0, e1, sApp, hh, homeD]
theorem rAt_drop {r : List Rat} {k l : Nat} : rAt (r.drop k) l = rAt r (k + l) := by
  unfold rAt
  rw [List.getD_eq_getElem?_getD, List.getD_eq_getElem?_getD, List.getElem?_drop]
def solCT : MS := sIf (tAndM (eTest (eOp dNe (eOp dIx (eVar 9) (eVar 2)) (eC k_ZERO))) (eTest (eOp dEq (eSl (eVar 9) pNo (pAt (eVar 2))) (eOp dMul (eOfL (aLst (aCons (eC k_ZERO) aNil))) (eVar 2))))) (sRetCF "certificate" (aSl (eVar 9) (pAt (eOp dAdd (eVar 2) (eC (.int 1)))) pNo)) sNx
theorem solCT_g {s0 s1 s3 s4 s5 s6 s7 s8 s10 s11 s12 s13 s14 : Slot} {r : List Rat} {n w : Nat} {g : Rng} {Q : Out → Prop} (hr : r.length = w + 1 + n) (hw : r.length ≤ 900)
    (h1 : ((∀ c, c < w → rAt r c = 0) → rAt r w = 0) → Q (.nx [s0, s1, .sh (.int w), s3, s4, s5, s6, s7, s8, .sh (vecD r), s10, s11, s12, s13, s14] g)) (h2 : ∀ d g, rAt r w ≠ 0 → (∀ c, c < w → rAt r c = 0) → d = .tup [.str "certificate", vecD (r.drop (w + 1))] → Q (.rt d g)) :
    WV (solCT [s0, s1, .sh (.int w), s3, s4, s5, s6, s7, s8, .sh (vecD r), s10, s11, s12, s13, s14] g) Q := by
  have ix : dIx (vecD r) (.int w) = .ok (frD (rAt r w)) := by
    unfold vecD
    rw [dIx_lst, fr_at (by omega)]
  have n1 := dNe_fr (rAt r w) 0
  have z := zeros_ok (w := w) (by omega)
  have c1 : dSl (vecD r) none (some (w : Int)) = .ok (vecD (r.take w)) := by
    unfold vecD
    rw [dSl_lst, cut_map, cut_to (by omega)]
  have c2 : dSl (vecD r) (some ((w : Int) + 1)) none = .ok (vecD (r.drop (w + 1))) := by
    unfold vecD
    have := cut_from (l := r) (k := w + 1) (by omega)
    rw [dSl_lst, cut_map, show (w : Int) + 1 = ((w + 1 : Nat) : Int) by omega, this]
  have e1 : dEq (vecD (r.take w)) (zerosD w) = .ok (.bl (decide (r.take w = List.replicate w 0))) := dEq_frs (by rw [List.length_take]; omega) (by rw [List.length_replicate]; omega)
  have zz : (r.take w = List.replicate w 0) ↔ ∀ c, c < w → rAt r c = 0 := by
    constructor
    · intro h c hc
      have : rAt (r.take w) c = rAt (List.replicate w 0) c := by rw [h]
      unfold rAt at this ⊢
      rw [List.getD_eq_getElem?_getD, List.getD_eq_getElem?_getD, List.getElem?_take, if_pos hc, List.getElem?_replicate, if_pos hc] at this
      rw [List.getD_eq_getElem?_getD, this]
      rfl
    · intro h
      apply List.ext_getElem
      · rw [List.length_take, List.length_replicate]; omega
      · intro c a b
        rw [List.length_replicate] at b
        have := h c b
        unfold rAt at this
        rw [List.getD_eq_getElem?_getD, List.getElem?_eq_getElem (by omega)] at this
        rw [List.getElem_take, List.getElem_replicate]
        exact this
  unfold solCT
  by_cases a : rAt r w = 0
  · rw [decide_eq_true a] at n1
    simp [ix, k_zero, n1]
    exact h1 fun _ => a
  · rw [decide_eq_false a] at n1
    by_cases b : r.take w = List.replicate w 0
    · rw [decide_eq_true b] at e1
      have cf : sRetCF "certificate" (aSl (eVar 9) (pAt (eOp dAdd (eVar 2) (eC (.int 1)))) pNo) [s0, s1, .sh (.int w), s3, s4, s5, s6, s7, s8, .sh (vecD r), s10, s11, s12, s13, s14] g = .ok (.rt (.tup [.str "certificate", vecD (r.drop (w + 1))]) g) := by
        have ct : DL.cutD (r.map frD) (some ((w : Int) + 1)) none = (r.drop (w + 1)).map frD := by
          rw [cut_map, show (w : Int) + 1 = ((w + 1 : Nat) : Int) by omega, cut_from (by omega)]
        unfold sRetCF aSl
        simp [vecD, ct]
      simp [ix, k_zero, n1]
      rw [← k_zero]
      simp [c1, z, e1, cf]
      exact h2 _ _ a (zz.mp b) rfl
    · rw [decide_eq_false b] at e1
      simp [ix, k_zero, n1]
      rw [← k_zero]
      simp [c1, z, e1]
      exact h1 fun h => (b (zz.mpr h)).elim
theorem noRt_nx {f : MS} {e e' : En} {g g' : Rng} (h : f e g = .ok (.nx e' g')) : sNoRt f e g = .ok (.nx e' g') := by unfold sNoRt; rw [h]
theorem WV_noRt {f : MS} {e : En} {g : Rng} {Q : Out → Prop} (h : WV (f e g) fun o => (∀ d g', o ≠ .rt d g') ∧ Q o) : WV (sNoRt f e g) Q := by
  obtain ⟨o, e1, h1, h2⟩ := h.get
  unfold sNoRt
  rw [e1]
  cases o with
  | rt d g' => exact (h1 d g' rfl).elim
  | nx e' g' => simp only [WV_ok]; exact h2
  | bk e' g' => simp only [WV_ok]; exact h2
  | ct e' g' => simp only [WV_ok]; exact h2
theorem linesF_at (n : Nat) : ∀ (l : List (List Rat × Rat)) (k i : Nat), lAt (linesF n k l) i = if i < l.length then lineR n (k + i) (l.getD i ([], 0)).1 (l.getD i ([], 0)).2 else []
  | [], k, i => by rw [linesF, if_neg (by simp)]; unfold lAt; simp
  | p :: l, k, 0 => by rw [linesF, if_pos (by simp)]; simp [lAt]
  | p :: l, k, i + 1 => by
    have := linesF_at n l (k + 1) i
    rw [linesF]
    unfold lAt at this ⊢
    rw [List.getD_cons_succ, this, List.length_cons]
    by_cases c : i < l.length
    · rw [if_pos c, if_pos (by omega), List.getD_cons_succ, show k + 1 + i = k + (i + 1) by omega]
    · rw [if_neg c, if_neg (by omega)]
def linV (M : List (List Rat)) (ts : List Rat) : Nat → Vec := lnV (linesF M.length 0 (M.zip ts))
theorem linV_at {M : List (List Rat)} {ts : List Rat} {w : Nat} (hw : ∀ r, r ∈ M → r.length = w) (ht : ts.length = M.length) {i : Nat} (hi : i < M.length) :
    (∀ c, c < w → linV M ts i c = rAt (lAt M i) c) ∧ linV M ts i w = rAt ts i ∧ (∀ l, l < M.length → linV M ts i (w + 1 + l) = if i = l then 1 else 0) ∧ ∀ k, w + 1 + M.length ≤ k → linV M ts i k = 0 := by
  have hz : (M.zip ts).getD i ([], 0) = (lAt M i, rAt ts i) := by
    unfold lAt rAt
    rw [List.getD_eq_getElem?_getD, List.getD_eq_getElem?_getD, List.getD_eq_getElem?_getD, List.getElem?_eq_getElem (by rw [List.length_zip]; omega), List.getElem?_eq_getElem hi, List.getElem?_eq_getElem (by omega)]
    simp
  have h1 := hw _ (lAt_mem hi)
  have e : ∀ k, linV M ts i k = rAt (lineR M.length i (lAt M i) (rAt ts i)) k := fun k => by
    unfold linV lnV
    rw [linesF_at, if_pos (by rw [List.length_zip]; omega), hz, Nat.zero_add]
  unfold lineR at e
  refine ⟨fun c hc => ?_, ?_, fun l hl => ?_, fun k hk => ?_⟩
  · rw [e, rAt_app_l (by simp; omega), rAt_app_l (by omega)]
  · rw [e, rAt_app_l (by simp; omega), rAt_app_r (by omega), h1, Nat.sub_self]; rfl
  · rw [e, rAt_app_r (by simp; omega)]
    have : w + 1 + l - (lAt M i ++ [rAt ts i]).length = l := by simp; omega
    rw [this]
    unfold unitR rAt
    rw [List.getD_eq_getElem?_getD, List.getElem?_map, List.getElem?_range hl]
    show (if l = i then (1 : Rat) else 0) = _
    by_cases c : l = i
    · rw [if_pos c, if_pos c.symm]
    · rw [if_neg c, if_neg fun z => c z.symm]
  · rw [e, rAt_out]
    unfold unitR
    simp
    omega
theorem solve_gen {M : List (List Rat)} {ts : List Rat} {w E : Nat} {B : Nat → Vec} {a : Nat → Rat} (hm1 : 1 ≤ M.length) (hm : M.length ≤ 100) (hw : ∀ r, r ∈ M → r.length = w) (hw9 : w ≤ 100) (ht : ts.length = M.length) (hb : 3 * E + 2 ≤ 8990)
    (hB : ∀ i, i < M.length → ∀ k, linV M ts i k = a i * B i k) (S : Sm M.length (w + 1 + M.length) B a E) :
    ∃ d, m_solve_linear [matD M, vecD ts] = .ok d ∧ SolG M.length w E (linV M ts) d := by
  suffices key : WV (b_solve_linear [.sh (matD M), .sh (vecD ts), .un, .un, .un, .un, .un, .un, .un, .un, .un, .un, .un, .un, .un] g0) (rtI fun d _ => SolG M.length w E (linV M ts) d) by
    obtain ⟨o, e, q⟩ := key.get
    cases o with
    | rt d g =>
      refine ⟨d, ?_, q⟩
      rw [m_solve_linear, runT, runD, if_pos (by rfl)]
      show onlyT (resD (b_solve_linear [.sh (matD M), .sh (vecD ts), .un, .un, .un, .un, .un, .un, .un, .un, .un, .un, .un, .un, .un] g0)) = _
      rw [e]
      have tu : ∃ l, d = .tup l := by
        rcases (show SolG M.length w E (linV M ts) d from q) with ⟨_, h, _⟩ | ⟨_, h, _⟩ <;> exact ⟨_, h⟩
      obtain ⟨l, rfl⟩ := tu
      rfl
    | nx _ _ => exact q.elim
    | bk _ _ => exact q.elim
    | ct _ _ => exact q.elim
  have hb' : b_solve_linear = sSeq (sNoRt (sDrop (eCall m_check_shape (aCons (eVar 0) (aCons (eVar 1) aNil))))) (sSeq (sNoRt (sAsg 2 (eIf (eTest (eOp dGt (eCall dLen (aCons (eVar 0) aNil)) (eC (.int 0)))) (eCall dLen (aCons (eOp dIx (eVar 0) (eC (.int 0))) aNil)) (eC (.int 0))))) (sSeq (sNoRt (sAsgF 3 (aLst aNil))) (sSeq (sNoRt (sFor (iEnumZipD (aCons (eVar 0) (aCons (eVar 1) aNil))) solTfA solA)) (sSeq (sNoRt (sFrz [3] (sAsgF 7 (aLst aNil)))) (sSeq (sNoRt (sFor (iRange (aCons (eVar 2) aNil)) (gNm 8) (sSeq solB1 (sSeq solB2 solB3)))) (sSeq (sFor (iSeqD (eVar 3)) (gNm 9) solCT) (sSeq (sNoRt (sFrz [7] (sAsgF 10 (aRepL (eOfL (aLst (aCons (eC k_ZERO) aNil))) (eVar 2))))) (sSeq (sNoRt (sFor (iSeqD (eVar 7)) (gTp 2 (gsCons (gNm 4) (gsCons (gNm 8) gsNil))) solD)) (sRetCO "solution" 10))))))))) := rfl
  rw [hb']
  have sh := shape_gen hm1 hm hw (by omega) ht .lst (.inl rfl) vecD (.inl fun r => rfl)
  have sh' : m_check_shape [matD M, vecD ts] = .ok .non := sh
  rw [sSeq_, WV_bindO]
  have st0 : sDrop (eCall m_check_shape (aCons (eVar 0) (aCons (eVar 1) aNil))) [.sh (matD M), .sh (vecD ts), .un, .un, .un, .un, .un, .un, .un, .un, .un, .un, .un, .un, .un] g0 = .ok (.nx [.sh (matD M), .sh (vecD ts), .un, .un, .un, .un, .un, .un, .un, .un, .un, .un, .un, .un, .un] g0) := by
    simp [sh']
  rw [noRt_nx st0, WV_ok, seqK_nx, sSeq_, WV_bindO]
  have st1 : sAsg 2 (eIf (eTest (eOp dGt (eCall dLen (aCons (eVar 0) aNil)) (eC (.int 0)))) (eCall dLen (aCons (eOp dIx (eVar 0) (eC (.int 0))) aNil)) (eC (.int 0))) [.sh (matD M), .sh (vecD ts), .un, .un, .un, .un, .un, .un, .un, .un, .un, .un, .un, .un, .un] g0 = .ok (.nx [.sh (matD M), .sh (vecD ts), .sh (.int w), .un, .un, .un, .un, .un, .un, .un, .un, .un, .un, .un, .un] g0) := by
    have l0 : dLen [matD M] = .ok (.int M.length) := by unfold matD; simp
    have i0 : dIx (matD M) (.int 0) = .ok (vecD (lAt M 0)) := by
      unfold matD
      have := rw_at (L := M) (k := 0) (by omega)
      rw [dIx_lst, show (0 : Int) = ((0 : Nat) : Int) from rfl, this]
    have l1 : dLen [vecD (lAt M 0)] = .ok (.int w) := by
      unfold vecD
      simp [hw _ (lAt_mem (L := M) (k := 0) (by omega))]
    simp [l0, i0, l1, show 0 < M.length by omega]
  rw [noRt_nx st1, WV_ok, seqK_nx, sSeq_, WV_bindO]
  have st2 : sAsgF 3 (aLst aNil) [.sh (matD M), .sh (vecD ts), .sh (.int w), .un, .un, .un, .un, .un, .un, .un, .un, .un, .un, .un, .un] g0 = .ok (.nx [.sh (matD M), .sh (vecD ts), .sh (.int w), .ow [], .un, .un, .un, .un, .un, .un, .un, .un, .un, .un, .un] g0) := by simp
  rw [noRt_nx st2, WV_ok, seqK_nx, sSeq_, WV_bindO]
  obtain ⟨s4, s5, s6, o4, o5, o6, la⟩ := solA_lg (M := M) (s1 := .sh (vecD ts)) (s2 := .sh (.int w)) (post := [.un, .un, .un, .un, .un, .un, .un, .un]) (g := g0) hm (M.zip ts) 0 [] .un .un .un rfl rfl rfl (fun p hp => by rw [hw _ (List.of_mem_zip hp).1]; exact hw9) (by rw [List.length_zip]; simp; omega)
  rw [List.map_nil, List.nil_append] at la
  have st3 : sFor (iEnumZipD (aCons (eVar 0) (aCons (eVar 1) aNil))) solTfA solA [.sh (matD M), .sh (vecD ts), .sh (.int w), .ow [], .un, .un, .un, .un, .un, .un, .un, .un, .un, .un, .un] g0 = .ok (.nx [.sh (matD M), .sh (vecD ts), .sh (.int w), .ow ((linesF M.length 0 (M.zip ts)).map vecD), s4, s5, s6, .un, .un, .un, .un, .un, .un, .un, .un] g0) := by
    rw [sFor_]
    unfold iEnumZipD
    simp only [aCons_, aNil_, eVar_, List.getElem?_cons_zero, List.getElem?_cons_succ, bind_ok, zipMT]
    exact la
  rw [noRt_nx st3, WV_ok, seqK_nx, sSeq_, WV_bindO]
  have lv := fun i hi => linV_at (i := i) hw ht hi
  have I0 : EI M.length w E (linV M ts) (linesF M.length 0 (M.zip ts)) [] 0 := by
    refine ⟨by rw [linesF_len, List.length_zip, ht, Nat.min_self], fun r hr => ?_, ?_, B, a, El.init hB, S⟩
    · obtain ⟨j, p, hp, rfl⟩ := linesF_mem _ hr
      have hz := List.of_mem_zip hp
      rw [lineR_len, hw _ hz.1]
    · exact GS.init fun i l hi hl => (lv i hi).2.2.1 l hl
  generalize linesF M.length 0 (M.zip ts) = L0 at I0
  have st4 : sFrz [3] (sAsgF 7 (aLst aNil)) [.sh (matD M), .sh (vecD ts), .sh (.int w), .ow (L0.map vecD), s4, s5, s6, .un, .un, .un, .un, .un, .un, .un, .un] g0 = .ok (.nx [.sh (matD M), .sh (vecD ts), .sh (.int w), .sh (matD L0), s4, s5, s6, .ow [], .un, .un, .un, .un, .un, .un, .un] g0) := by
    unfold sFrz
    have bo : borrow [3] [.sh (matD M), .sh (vecD ts), .sh (.int w), .ow (L0.map vecD), s4, s5, s6, .un, .un, .un, .un, .un, .un, .un, .un] = [.sh (matD M), .sh (vecD ts), .sh (.int w), .sh (matD L0), s4, s5, s6, .un, .un, .un, .un, .un, .un, .un, .un] := borrow_one (pre := [.sh (matD M), .sh (vecD ts), .sh (.int w)]) rfl
    rw [bo]
    simp
  rw [noRt_nx st4, WV_ok, seqK_nx, sSeq_, WV_bindO]
  refine WV.mono (Q := fun o => ∃ (L : List (List Rat)) (hs : List (Nat × Nat)) (s4 s8 s11 s12 : Slot) (g : Rng), o = .nx [.sh (matD M), .sh (vecD ts), .sh (.int w), .sh (matD L), s4, s5, s6, .ow (hs.map homeD), s8, .un, .un, s11, s12, .un, .un] g ∧ EI M.length w E (linV M ts) L hs w ∧ hs.length ≤ w) (WV_noRt (WV.mono (Q := fun o => ∃ (L : List (List Rat)) (hs : List (Nat × Nat)) (s4 s8 s11 s12 : Slot) (g : Rng), o = .nx [.sh (matD M), .sh (vecD ts), .sh (.int w), .sh (matD L), s4, s5, s6, .ow (hs.map homeD), s8, .un, .un, s11, s12, .un, .un] g ∧ EI M.length w E (linV M ts) L hs w ∧ hs.length ≤ w) ?_ fun o ⟨L, hs, s4, s8, s11, s12, g, e, r⟩ => ⟨fun d g' z => (by rw [e] at z; cases z), L, hs, s4, s8, s11, s12, g, e, r⟩)) ?_
  · rw [sFor_]
    simp only [iRange_, aCons_, aNil_, eVar_, List.getElem?_cons_zero, List.getElem?_cons_succ, bind_ok, iRK_1]
    rw [if_pos ⟨by omega, by omega⟩, bind_ok, Int.toNat_natCast, range_map]
    refine WV_forI (fun k e g => k ≤ w ∧ ∃ (L : List (List Rat)) (hs : List (Nat × Nat)) (s8 s11 s12 : Slot), e = [.sh (matD M), .sh (vecD ts), .sh (.int w), .sh (matD L), s4, s5, s6, .ow (hs.map homeD), s8, .un, .un, s11, s12, .un, .un] ∧ EI M.length w E (linV M ts) L hs k ∧ hs.length ≤ k) ⟨Nat.zero_le _, L0, [], .un, .un, .un, rfl, I0, Nat.le_refl _⟩ ?_ ?_
    · rintro k d hd e g ⟨hk, L, hs, s8, s11, s12, rfl, I, hh⟩
      have kw : k < w := by
        have := (List.getElem?_eq_some_iff.mp hd).1
        simpa using this
      rw [List.getElem?_map, List.getElem?_range kw] at hd
      cases hd
      refine ⟨_, rfl, ?_⟩
      show WV ((sSeq solB1 (sSeq solB2 solB3)) [.sh (matD M), .sh (vecD ts), .sh (.int w), .sh (matD L), s4, s5, s6, .ow (hs.map homeD), .sh (.int k), .un, .un, s11, s12, .un, .un] g) _
      have ll := I.len
      have t1 := solB1_ok (s0 := .sh (matD M)) (s1 := .sh (vecD ts)) (s2 := .sh (.int w)) (s3 := .sh (matD L)) (s4 := s4) (s5 := s5) (s6 := s6) (s8 := .sh (.int k)) (s9 := .un) (s10 := .un) (s11 := s11) (s12 := s12) (hs := hs) (g := g) (by omega)
      have t2 := solB2_ok (s0 := .sh (matD M)) (s1 := .sh (vecD ts)) (s2 := .sh (.int w)) (s4 := s4) (s5 := s5) (s6 := s6) (s7 := .ow (hs.map homeD)) (s10 := .un) (s12 := s12) (L := L) (used := hs.map (·.1)) (spot := k) (w := w + 1 + M.length) (g := g) o4 (by rw [List.length_map]; omega) I.row (by omega) (by omega)
      obtain ⟨L', hs', t3, b1, b2⟩ := solB3_g (s0 := .sh (matD M)) (s1 := .sh (vecD ts)) (s2 := .sh (.int w)) (s4 := s4) (s5 := s5) (s6 := s6) (s9 := .un) (s10 := .un) (s11 := .sh (.lst ((hs.map (·.1)).map fun i => D.int (i : Nat)))) (s13 := .un) (s14 := .un) (g := g) I kw (by omega) hb rfl (by omega)
      rw [sSeq_, t1, bind_ok, seqK_nx, sSeq_, t2, bind_ok, seqK_nx, t3, WV_ok, outFor_nx]
      exact ⟨kw, L', hs', _, _, _, rfl, b1, by omega⟩
    · rintro e g ⟨hk, L, hs, s8, s11, s12, rfl, I, hh⟩
      rw [List.length_map, List.length_range] at I hh
      exact ⟨L, hs, s4, s8, s11, s12, g, rfl, I, hh⟩
  rintro o ⟨L, hs, s4', s8, s11, s12, g, rfl, I, hh⟩
  have ll := I.len
  rw [seqK_nx, sSeq_, WV_bindO]
  refine WV.mono (Q := fun o => (∃ d g, o = .rt d g ∧ SolG M.length w E (linV M ts) d) ∨ ∃ (s9 : Slot) (g : Rng), o = .nx [.sh (matD M), .sh (vecD ts), .sh (.int w), .sh (matD L), s4', s5, s6, .ow (hs.map homeD), s8, s9, .un, s11, s12, .un, .un] g ∧ ∀ i, i < M.length → (∀ c, c < w → lnV L i c = 0) → lnV L i w = 0) ?_ ?_
  · rw [sFor_]
    have hd : dItems (matD L) = .ok (L.map vecD) := rfl
    simp only [iSeqD_, eVar_, List.getElem?_cons_zero, List.getElem?_cons_succ, bind_ok, hd]
    refine WV_forI (fun k e g => ∃ (s9 : Slot), e = [.sh (matD M), .sh (vecD ts), .sh (.int w), .sh (matD L), s4', s5, s6, .ow (hs.map homeD), s8, s9, .un, s11, s12, .un, .un] ∧ ∀ i, i < k → (∀ c, c < w → lnV L i c = 0) → lnV L i w = 0) ⟨.un, rfl, fun i hi => by omega⟩ ?_ ?_
    · rintro k d hd e g ⟨s9, rfl, hn⟩
      have kl : k < L.length := by
        have := (List.getElem?_eq_some_iff.mp hd).1
        simpa using this
      have hd' : d = vecD (lAt L k) := by
        rw [List.getElem?_map, List.getElem?_eq_getElem kl] at hd
        unfold lAt
        rw [List.getD_eq_getElem?_getD, List.getElem?_eq_getElem kl]
        cases hd
        rfl
      subst hd'
      refine ⟨_, rfl, ?_⟩
      have h2 := I.row _ (lAt_mem kl)
      show WV (solCT [.sh (matD M), .sh (vecD ts), .sh (.int w), .sh (matD L), s4', s5, s6, .ow (hs.map homeD), s8, .sh (vecD (lAt L k)), .un, s11, s12, .un, .un] g) _
      refine solCT_g (n := M.length) h2 (by rw [h2]; omega) (fun z => ⟨_, rfl, fun i hi => ?_⟩) fun d g z1 z2 e => .inl ⟨d, g, rfl, .inr ⟨_, e, by rw [List.length_drop, h2]; omega, ?_⟩⟩
      · by_cases c : i = k
        · subst c; exact z
        · exact hn i (by omega)
      · obtain ⟨c1, c2⟩ := I.gs.cert (i := k) (by omega) z1 z2
        refine ⟨fun c hc => ?_, ?_, fun x hx => (I.rb (Nat.le_refl _) _ (lAt_mem kl)).2 x (List.mem_of_mem_drop hx)⟩
        · rw [← c1 c hc]
          exact sumN_congr fun l hl => by rw [rAt_drop]; rfl
        · have : (sumN M.length fun l => rAt ((lAt L k).drop (w + 1)) l * linV M ts l w) = sumN M.length fun l => lnV L k (w + 1 + l) * linV M ts l w := sumN_congr fun l hl => by rw [rAt_drop]; rfl
          rw [this]; exact c2
    · rintro e g ⟨s9, rfl, hn⟩
      rw [List.length_map, ll] at hn
      exact .inr ⟨s9, g, rfl, hn⟩
  rintro o (⟨d, g', rfl, sd⟩ | ⟨s9, g', rfl, hno⟩)
  · rw [seqK_rt, WV_ok]
    exact sd
  rw [seqK_nx, sSeq_, WV_bindO]
  have st5 : sFrz [7] (sAsgF 10 (aRepL (eOfL (aLst (aCons (eC k_ZERO) aNil))) (eVar 2))) [.sh (matD M), .sh (vecD ts), .sh (.int w), .sh (matD L), s4', s5, s6, .ow (hs.map homeD), s8, s9, .un, s11, s12, .un, .un] g' = .ok (.nx [.sh (matD M), .sh (vecD ts), .sh (.int w), .sh (matD L), s4', s5, s6, .sh (.lst (hs.map homeD)), s8, s9, .ow ((List.replicate w (0 : Rat)).map frD), s11, s12, .un, .un] g') := by
    unfold sFrz
    have bo : borrow [7] [.sh (matD M), .sh (vecD ts), .sh (.int w), .sh (matD L), s4', s5, s6, .ow (hs.map homeD), s8, s9, .un, s11, s12, .un, .un] = [.sh (matD M), .sh (vecD ts), .sh (.int w), .sh (matD L), s4', s5, s6, .sh (.lst (hs.map homeD)), s8, s9, .un, s11, s12, .un, .un] := borrow_one (pre := [.sh (matD M), .sh (vecD ts), .sh (.int w), .sh (matD L), s4', s5, s6]) rfl
    rw [bo]
    have rp : aRepL (eOfL (aLst (aCons (eC k_ZERO) aNil))) (eVar 2) [.sh (matD M), .sh (vecD ts), .sh (.int w), .sh (matD L), s4', s5, s6, .sh (.lst (hs.map homeD)), s8, s9, .un, s11, s12, .un, .un] g' = .ok ((List.replicate w (0 : Rat)).map frD, g') := by
      unfold aRepL
      simp [show w ≤ 1000 by omega]
      rw [if_pos (by omega)]
      rfl
    rw [sAsgF_, rp]
    simp
  rw [noRt_nx st5, WV_ok, seqK_nx, sSeq_, WV_bindO]
  refine WV.mono (Q := fun o => ∃ (res : List Rat) (s4 s8 : Slot) (g : Rng), o = .nx [.sh (matD M), .sh (vecD ts), .sh (.int w), .sh (matD L), s4, s5, s6, .sh (.lst (hs.map homeD)), s8, s9, .ow (res.map frD), s11, s12, .un, .un] g ∧ res.length = w ∧ (∀ h, h ∈ hs → rAt res h.2 = lnV L h.1 w) ∧ ∀ c, c ∉ hs.map (·.2) → rAt res c = 0) (WV_noRt (WV.mono (Q := fun o => ∃ (res : List Rat) (s4 s8 : Slot) (g : Rng), o = .nx [.sh (matD M), .sh (vecD ts), .sh (.int w), .sh (matD L), s4, s5, s6, .sh (.lst (hs.map homeD)), s8, s9, .ow (res.map frD), s11, s12, .un, .un] g ∧ res.length = w ∧ (∀ h, h ∈ hs → rAt res h.2 = lnV L h.1 w) ∧ ∀ c, c ∉ hs.map (·.2) → rAt res c = 0) ?_ fun o ⟨res, s4, s8, g, e, r⟩ => ⟨fun d g' z => (by rw [e] at z; cases z), res, s4, s8, g, e, r⟩)) ?_
  · rw [sFor_]
    have hd : dItems (.lst (hs.map homeD)) = .ok (hs.map homeD) := rfl
    simp only [iSeqD_, eVar_, List.getElem?_cons_zero, List.getElem?_cons_succ, bind_ok, hd]
    obtain ⟨B', a', el, _⟩ := I.el
    refine WV_forI (fun k e g => ∃ (res : List Rat) (s4 s8 : Slot), e = [.sh (matD M), .sh (vecD ts), .sh (.int w), .sh (matD L), s4, s5, s6, .sh (.lst (hs.map homeD)), s8, s9, .ow (res.map frD), s11, s12, .un, .un] ∧ res.length = w ∧ (∀ h, h ∈ hs.take k → rAt res h.2 = lnV L h.1 w) ∧ ∀ c, c ∉ (hs.take k).map (·.2) → rAt res c = 0) ⟨List.replicate w 0, s4', s8, rfl, by simp, fun h hh => by simp at hh, fun c _ => by
      unfold rAt
      rw [List.getD_eq_getElem?_getD, List.getElem?_replicate]
      split <;> rfl⟩ ?_ ?_
    · rintro k d hd e g ⟨res, s4, s8, rfl, r1, r2, r3⟩
      have kl : k < hs.length := by
        have := (List.getElem?_eq_some_iff.mp hd).1
        simpa using this
      rw [List.getElem?_map, List.getElem?_eq_getElem kl] at hd
      cases hd
      have hm' := List.getElem_mem kl
      have p1 := el.hm _ hm'
      have p2 := I.gs.hlt _ hm'
      have tk : hs.take (k + 1) = hs.take k ++ [hs[k]] := by rw [List.take_succ, List.getElem?_eq_getElem kl]; rfl
      have fresh : ∀ h, h ∈ hs.take k → h.2 ≠ hs[k].2 := by
        have nd := el.nd2
        rw [← List.take_append_drop (k + 1) hs, tk, List.map_append, List.map_append] at nd
        have nd' := (List.nodup_append.mp nd).1
        intro h hh e
        exact (List.nodup_append.mp nd').2.2 _ (List.mem_map_of_mem hh) _ (List.mem_map_of_mem List.mem_cons_self) e
      generalize hs[k] = p at *
      refine ⟨_, rfl, ?_⟩
      show WV (solD [.sh (matD M), .sh (vecD ts), .sh (.int w), .sh (matD L), .sh (.int p.1), s5, s6, .sh (.lst (hs.map homeD)), .sh (.int p.2), s9, .ow (res.map frD), s11, s12, .un, .un] g) _
      rw [solD_ok (n := M.length) (by omega) p2 r1 I.row, WV_ok, outFor_nx]
      refine ⟨_, _, _, rfl, by rw [List.length_set]; exact r1, fun h hh' => ?_, fun c hc => ?_⟩
      · rw [rAt_set (by omega)]
        rw [tk] at hh'
        rcases List.mem_append.mp hh' with q | q
        · rw [if_neg (fresh h q)]; exact r2 h q
        · rw [List.mem_singleton.mp q, if_pos rfl]; rfl
      · rw [tk, List.map_append, List.mem_append, not_or] at hc
        rw [rAt_set (by omega), if_neg fun z => hc.2 (by simp [z])]
        exact r3 c hc.1
    · rintro e g ⟨res, s4, s8, rfl, r1, r2, r3⟩
      rw [List.length_map, List.take_length] at r2 r3
      exact ⟨res, s4, s8, g, rfl, r1, r2, r3⟩
  rintro o ⟨res, s4, s8, g'', rfl, r1, r2, r3⟩
  rw [seqK_nx]
  obtain ⟨B', a', el, S'⟩ := I.el
  obtain ⟨y, _, y0, yE, yh, _⟩ := el.size S' fun h hh => by have := I.gs.hlt h hh; omega
  have fin : SolG M.length w E (linV M ts) (.tup [.str "solution", vecD res]) := .inl ⟨res, rfl, r1, I.gs.sol el hno r2 fun c _ hc => r3 c hc, y, y0, yE, fun c => by
    by_cases hc : c ∈ hs.map (·.2)
    · obtain ⟨h, hh, rfl⟩ := List.mem_map.mp hc
      rw [r2 h hh]
      exact yh h w hh (by omega)
    · rw [r3 c hc]
      exact ⟨0, by rw [Rat.zero_mul]; rfl, Nat.pow_pos (by decide)⟩⟩
  unfold sRetCO
  simp only [List.getElem?_cons_zero, List.getElem?_cons_succ, WV_ok]
  exact fin
theorem dNe_lit {a b : Str} {c : Bool} (h : (PyData.strOk a && PyData.strOk b && ((a == b) == !c)) = true) : dNe (.str a) (.str b) = .ok (.bl c) := by
  simp only [Bool.and_eq_true, beq_iff_eq] at h
  rw [dNe_ss h.1.1 h.1.2, h.2, Bool.not_not]
structure LinG (M : List (List Rat)) (ts : List Rat) : Prop where
  m1 : 1 ≤ M.length
  m5 : M.length ≤ 24
  w : ∃ w, 1 ≤ w ∧ w ≤ 24 ∧ ∀ r, r ∈ M → r.length = w
  t : ts.length = M.length
  rb : ∀ r, r ∈ M → ∀ q, q ∈ r → RB 20 q
  tb : ∀ q, q ∈ ts → RB 30 q
def seqD (b : Bool) (l : List D) : D := if b = true then .tup l else .lst l
def rowX (b : Bool) (r : List Rat) : D := seqD b (r.map frD)
def chkR (M : List (List Rat)) (ts : List Rat) (k : Str) (x : List Rat) : Bool :=
  if k = "solution" then decide (x.length = (lAt M 0).length) && decide ((M.map fun r => dotR r x) = ts)
  else decide (x.length = M.length) && (decide (((List.range (lAt M 0).length).map fun j => sumR 0 ((x.zip M).map fun p => p.1 * rAt p.2 j)) = List.replicate (lAt M 0).length 0) && !decide (dotR x ts = 0))
theorem seq_ix (b : Bool) (l : List D) (i : Int) : dIx (seqD b l) (.int i) = dIx (.lst l) (.int i) := by cases b <;> rfl
theorem prods_b {a b : Nat} {x y : List Rat} (hx : ∀ q, q ∈ x → RB a q) (hy : ∀ q, q ∈ y → RB b q) : ∀ q, q ∈ (x.zip y).map (fun p => p.1 * p.2) → RB (a + b) q := fun q hq => by
  obtain ⟨p, hp, rfl⟩ := List.mem_map.mp hq
  exact rb_prod (hx _ (List.of_mem_zip hp).1) (hy _ (List.of_mem_zip hp).2)
theorem dot_ok {a b : Nat} {x y : List Rat} {i j : Nat} {va vb : Slot} {cx cy : Bool} {e : En} {g : Rng} (hx : ∀ q, q ∈ x → RB a q) (hy : ∀ q, q ∈ y → RB b q) (hb : a + b + 1 ≤ 8990) (hl : min x.length y.length ≤ 1000) (tf : TgF) (fe : ME) (m : List D → Res D)
    (hm : ∀ p q, RB a p → RB b q → m [frD p, frD q] = .ok (frD (p * q)))
    (ht : ∀ p q : Rat, ∃ e1, tf (.tup [frD p, frD q]) e = some e1 ∧ fe e1 g = pureG (m [frD p, frD q]) g) :
    lcL tf mTrue fe (((x.map frD).zip (y.map frD)).map fun q => D.tup [q.1, q.2]) e g = .ok (((x.zip y).map fun p => p.1 * p.2).map frD, g) := lc_prod fun p hp => by
  obtain ⟨e1, h1, h2⟩ := ht p.1 p.2
  exact ⟨e1, h1, by rw [h2, hm _ _ (hx _ (List.of_mem_zip hp).1) (hy _ (List.of_mem_zip hp).2)]; rfl⟩
theorem zipQ2 (b : Bool) : ∀ (x : List Rat) (M : List (List Rat)), ((x.map frD).zip (M.map (rowX b))).map (fun q => D.tup [q.1, q.2]) = (x.zip M).map fun p => .tup [frD p.1, rowX b p.2]
  | [], y => by simp
  | _ :: _, [] => by simp
  | a :: x, r :: M => by simp [zipQ2 b x M]
theorem row_ix {b : Bool} {r : List Rat} {k : Nat} (h : k < r.length) : dIx (rowX b r) (.int k) = .ok (frD (rAt r k)) := by
  unfold rowX
  rw [seq_ix, dIx_lst, fr_at h]
theorem lt5 {a n : Nat} (h : n ≤ 24) (ha : a * 24 + 2 ≤ 8990) : a * n + 2 ≤ 8990 := by
  have := Nat.mul_le_mul_left a h
  omega
theorem un_ow : Slot.un.isOw = false := rfl
def colS (M : List (List Rat)) (x : List Rat) (j : Nat) : Rat := sumR 0 ((x.zip M).map fun p => p.1 * rAt p.2 j)
def lchS : MS := (sSeq (sIf (eTest (eOp dNe (eCall dLen (aCons (eVar 4) aNil)) (eCall dLen (aCons (eOp dIx (eOp dAdd (eVar 0) (eOfL (aLst (aCons (eOfL (aLst aNil)) aNil)))) (eC (.int 0))) aNil)))) (sRet [] (eC (.bl false))) sNx)
    (sRet [] (eOp dEq (eOfL (aLc [6] (iSeqD (eVar 0)) (gNm 6) mTrue (eCall m__law_sum (aCons (eOfL (aLc [7, 8] (iZipD (aCons (eVar 6) (aCons (eVar 4) aNil))) (gTp 2 (gsCons (gNm 7) (gsCons (gNm 8) gsNil))) mTrue (eCall m__law_multiply (aCons (eVar 7) (aCons (eVar 8) aNil))))) aNil)))) (eCall dList (aCons (eVar 1) aNil)))))
def lchC1 : MS := sIf (tOrM (eTest (eOp dNe (eVar 3) (eC (.str "certificate")))) (eTest (eOp dNe (eCall dLen (aCons (eVar 4) aNil)) (eCall dLen (aCons (eVar 0) aNil))))) (sRet [] (eC (.bl false))) sNx
def lchB : MS := sIf (eTest (eOp dNe (eCall m__law_sum (aCons (eOfL (aLc [7, 6] (iZipD (aCons (eVar 4) (aCons (eVar 0) aNil))) (gTp 2 (gsCons (gNm 7) (gsCons (gNm 6) gsNil))) mTrue (eCall m__law_multiply (aCons (eVar 7) (aCons (eOp dIx (eVar 6) (eVar 5)) aNil))))) aNil)) (eTup (aCons (eC (.int 0)) (aCons (eC (.int 1)) aNil))))) (sRet [] (eC (.bl false))) sNx
def lchC2 : MS := sFor (iRange (aCons (eCall dLen (aCons (eOp dIx (eOp dAdd (eVar 0) (eOfL (aLst (aCons (eOfL (aLst aNil)) aNil)))) (eC (.int 0))) aNil)) aNil)) (gNm 5) lchB
def lchC3 : MS := sRet [] (eOp dNe (eCall m__law_sum (aCons (eOfL (aLc [7, 8] (iZipD (aCons (eVar 4) (aCons (eVar 1) aNil))) (gTp 2 (gsCons (gNm 7) (gsCons (gNm 8) gsNil))) mTrue (eCall m__law_multiply (aCons (eVar 7) (aCons (eVar 8) aNil))))) aNil)) (eTup (aCons (eC (.int 0)) (aCons (eC (.int 1)) aNil))))
theorem lch_parts : b__law_check_solution = sSeq (sAsgG (gTp 2 (gsCons (gNm 3) (gsCons (gNm 4) gsNil))) (eVar 2)) (sSeq (sIf (eTest (eOp dEq (eVar 3) (eC (.str "solution")))) lchS sNx) (sSeq lchC1 (sSeq lchC2 lchC3))) := rfl
theorem head_ok {M : List (List Rat)} (m1 : 1 ≤ M.length) (m5 : M.length ≤ 24) {e : En} {g : Rng} (h0 : e[0]? = some (.sh (matD M))) : (eOp dIx (eOp dAdd (eVar 0) (eOfL (aLst (aCons (eOfL (aLst aNil)) aNil)))) (eC (.int 0))) e g = .ok (vecD (lAt M 0), g) := by
  have a1 : dAdd (matD M) (.lst [.lst []]) = .ok (.lst (M.map vecD ++ [.lst []])) := dAdd_ll (by simp; omega)
  have a2 : dIx (.lst (M.map vecD ++ [.lst []])) (.int 0) = .ok (vecD (lAt M 0)) := by
    cases M with
    | nil => simp at m1
    | cons r M =>
      simp [atI, ixN, lAt]
      rw [if_pos (by omega)]
      rfl
  simp [h0, a1]
  have a2' := a2
  simp only [dIx_lst] at a2'
  rw [a2']
  rfl
section
variable {M : List (List Rat)} {ts x : List Rat} {w : Nat} {g : Rng} {s2 s3 s5 : Slot}
theorem lrow_ok {a b n : Nat} {u v : List Rat} {e : En} (i j : Nat) (hi : e[i]? = some (.sh (vecD u))) (hj : e[j]? = some (.sh (vecD v))) (h7 : e[7]? = some .un) (h8 : e[8]? = some .un) (hle : e.length = 9) (hu : ∀ q, q ∈ u → RB a q) (hv : ∀ q, q ∈ v → RB b q) (hab : a + b + 1 ≤ 8990) (hm : min u.length v.length ≤ n) (hn : n ≤ 24) (hb : (a + b + 1) * 24 + 2 ≤ 8990) :
    eCall m__law_sum (aCons (eOfL (aLc [7, 8] (iZipD (aCons (eVar i) (aCons (eVar j) aNil))) (gTp 2 (gsCons (gNm 7) (gsCons (gNm 8) gsNil))) mTrue (eCall m__law_multiply (aCons (eVar 7) (aCons (eVar 8) aNil))))) aNil) e g = .ok (frD (dotR u v), g) := by
  have hw : wipeE e [7, 8] = e := by
    match e, hle with
    | [_, _, _, _, _, _, _, e7, e8], _ =>
      simp at h7 h8
      subst h7 h8
      rfl
  have d1 := dot_ok (a := a) (b := b) (x := u) (y := v) (i := 0) (j := 0) (va := .un) (vb := .un) (cx := true) (cy := true) (e := e) (g := g) hu hv hab (by omega) (gTp 2 (gsCons (gNm 7) (gsCons (gNm 8) gsNil))) (eCall m__law_multiply (aCons (eVar 7) (aCons (eVar 8) aNil))) m__law_multiply (fun p q hp hq => law_mul_ok hp hq hab) fun p q => by
    match e, hle with
    | [_, _, _, _, _, _, _, e7, e8], _ => exact ⟨_, rfl, by simp⟩
  have t1 := lsum_ok (a := a + b) (qs := (u.zip v).map fun p => p.1 * p.2) (prods_b hu hv) (lt5 (by rw [List.length_map, List.length_zip]; omega) hb)
  have z : dZip [vecD u, vecD v] = .ok (((u.map frD).zip (v.map frD)).map fun q => .tup [q.1, q.2]) := rfl
  have al : aLc [7, 8] (iZipD (aCons (eVar i) (aCons (eVar j) aNil))) (gTp 2 (gsCons (gNm 7) (gsCons (gNm 8) gsNil))) mTrue (eCall m__law_multiply (aCons (eVar 7) (aCons (eVar 8) aNil))) e g = .ok (((u.zip v).map fun p => p.1 * p.2).map frD, g) := by
    rw [aLc_]
    simp only [iZipD_, aCons_, aNil_, eVar_, hi, hj, bind_ok, z]
    rw [if_pos ⟨by simp [h7, h8, un_ow], by simp; omega⟩, hw]
    exact congrArg noErr d1
  simp only [eCall_, aCons_, aNil_, eOfL_, bind_ok]
  rw [al]
  simp only [bind_ok]
  rw [t1]
  rfl
theorem lchS_ok (m1 : 1 ≤ M.length) (m5 : M.length ≤ 24) (w5 : w ≤ 24) (hw : ∀ r, r ∈ M → r.length = w) (tl : ts.length = M.length) (rb : ∀ r, r ∈ M → ∀ q, q ∈ r → RB 20 q) (hx : ∀ q, q ∈ x → RB 300 q) :
    lchS [.sh (matD M), .sh (vecD ts), s2, s3, .sh (vecD x), s5, .un, .un, .un] g = .ok (.rt (.bl (decide (x.length = w) && decide ((M.map fun r => dotR r x) = ts))) g) := by
  have w0 : (lAt M 0).length = w := hw _ (lAt_mem (by omega))
  have hd := head_ok (M := M) m1 m5 (e := [.sh (matD M), .sh (vecD ts), s2, s3, .sh (vecD x), s5, .un, .un, .un]) (g := g) rfl
  have l0 : dLen [vecD (lAt M 0)] = .ok (.int w) := by unfold vecD; simp [w0]
  have lx : dLen [vecD x] = .ok (.int x.length) := by unfold vecD; simp
  unfold lchS
  rw [sSeq_, sIf_, eTest_, eOp_]
  simp only [eCall_, aCons_, aNil_, bind_ok, hd, eVar_, List.getElem?_cons_zero, List.getElem?_cons_succ, lx, l0, pureG_ok', dNe_ii, toB_]
  by_cases c : x.length = w
  · have lc := lcL_mapT (tf := gNm 6) (fe := eCall m__law_sum (aCons (eOfL (aLc [7, 8] (iZipD (aCons (eVar 6) (aCons (eVar 4) aNil))) (gTp 2 (gsCons (gNm 7) (gsCons (gNm 8) gsNil))) mTrue (eCall m__law_multiply (aCons (eVar 7) (aCons (eVar 8) aNil))))) aNil)) (e := [.sh (matD M), .sh (vecD ts), s2, s3, .sh (vecD x), s5, .un, .un, .un]) (g := g) (φ := vecD) (ψ := fun r => frD (dotR r x)) (ts := M) fun r hr => ⟨_, rfl, lrow_ok (a := 20) (b := 300) (n := 24) 6 4 rfl rfl rfl rfl rfl (rb r hr) hx (by decide) (by rw [hw r hr]; omega) (by decide) (by decide)⟩
    have it : dItems (matD M) = .ok (M.map vecD) := rfl
    have al2 : aLc [6] (iSeqD (eVar 0)) (gNm 6) mTrue (eCall m__law_sum (aCons (eOfL (aLc [7, 8] (iZipD (aCons (eVar 6) (aCons (eVar 4) aNil))) (gTp 2 (gsCons (gNm 7) (gsCons (gNm 8) gsNil))) mTrue (eCall m__law_multiply (aCons (eVar 7) (aCons (eVar 8) aNil))))) aNil)) [.sh (matD M), .sh (vecD ts), s2, s3, .sh (vecD x), s5, .un, .un, .un] g = .ok ((M.map fun r => dotR r x).map frD, g) := by
      rw [aLc_]
      simp only [iSeqD_, eVar_, List.getElem?_cons_zero, bind_ok, it]
      rw [if_pos ⟨rfl, by simp; omega⟩, List.map_map]
      exact congrArg noErr lc
    have e1 := dEq_frs (ps := M.map fun r => dotR r x) (qs := ts) (by simp; omega) (by omega)
    have li : dList [vecD ts] = .ok (.lst (ts.map frD)) := rfl
    rw [decide_eq_true c]
    simp only [show (x.length : Int) = w by omega, decide_true, Bool.not_true, Bool.false_eq_true, if_false, sNx_, bind_ok, seqK_nx, sRet_, borrow_nil, eOp_, eOfL_, al2, eCall_, aCons_, aNil_, eVar_, List.getElem?_cons_zero, List.getElem?_cons_succ, li, pureG_ok', e1, Bool.true_and]
  · rw [decide_eq_false c]
    have c' : ¬ (x.length : Int) = w := by omega
    simp [c', borrow_nil]
theorem lcheck_ok (h : LinG M ts) {k : Str} (hk : k = "solution" ∨ k = "certificate") (hx : ∀ q, q ∈ x → RB 300 q) (hl : x.length ≤ 100) : m__law_check_solution [matD M, vecD ts, .tup [.str k, vecD x]] = .ok (.bl (chkR M ts k x)) := by
  obtain ⟨w, w1, w5, hw⟩ := h.w
  have m1 := h.m1
  have m5 := h.m5
  have tl := h.t
  have rb : ∀ r, r ∈ M → ∀ q, q ∈ r → RB 20 q := fun r hr q hq => h.rb r hr q hq
  have tb : ∀ q, q ∈ ts → RB 30 q := fun q hq => h.tb q hq
  have w0 : (lAt M 0).length = w := hw _ (lAt_mem (by omega))
  suffices key : WV (b__law_check_solution [.sh (matD M), .sh (vecD ts), .sh (.tup [.str k, vecD x]), .un, .un, .un, .un, .un, .un] g0) (rtI fun d _ => d = .bl (chkR M ts k x)) by
    obtain ⟨o, e, q⟩ := key.get
    cases o with
    | rt d g =>
      rw [m__law_check_solution, runD, if_pos (by rfl)]
      show resD (b__law_check_solution [.sh (matD M), .sh (vecD ts), .sh (.tup [.str k, vecD x]), .un, .un, .un, .un, .un, .un] g0) = _
      rw [e]
      exact congrArg Res.ok q
    | nx _ _ => exact q.elim
    | bk _ _ => exact q.elim
    | ct _ _ => exact q.elim
  rw [lch_parts, sSeq_, WV_bindO]
  have st1 : sAsgG (gTp 2 (gsCons (gNm 3) (gsCons (gNm 4) gsNil))) (eVar 2) [.sh (matD M), .sh (vecD ts), .sh (.tup [.str k, vecD x]), .un, .un, .un, .un, .un, .un] g0 = .ok (.nx [.sh (matD M), .sh (vecD ts), .sh (.tup [.str k, vecD x]), .sh (.str k), .sh (vecD x), .un, .un, .un, .un] g0) := by
    simp
  rw [st1, WV_ok, seqK_nx, sSeq_, WV_bindO, sIf_]
  rcases hk with rfl | rfl
  · have q1 : dEq (.str "solution") (.str "solution") = .ok (.bl true) := dEq_lit (by decide +kernel)
    have t : (eTest (eOp dEq (eVar 3) (eC (.str "solution")))) [.sh (matD M), .sh (vecD ts), .sh (.tup [.str "solution", vecD x]), .sh (.str "solution"), .sh (vecD x), .un, .un, .un, .un] g0 = .ok (true, g0) := by simp [q1]
    rw [t, bind_ok, if_pos rfl, lchS_ok m1 m5 w5 hw tl rb hx, WV_ok, seqK_rt, WV_ok, rtI_rt]
    unfold chkR
    rw [if_pos rfl, w0]
  · have q1 : dEq (.str "certificate") (.str "solution") = .ok (.bl false) := dEq_lit (by decide +kernel)
    have q2 : dNe (.str "certificate") (.str "certificate") = .ok (.bl false) := dNe_lit (by decide +kernel)
    have t : (eTest (eOp dEq (eVar 3) (eC (.str "solution")))) [.sh (matD M), .sh (vecD ts), .sh (.tup [.str "certificate", vecD x]), .sh (.str "certificate"), .sh (vecD x), .un, .un, .un, .un] g0 = .ok (false, g0) := by simp [q1]
    have l0 : dLen [matD M] = .ok (.int M.length) := by unfold matD; simp
    have lx : dLen [vecD x] = .ok (.int x.length) := by unfold vecD; simp
    have l1 : dLen [vecD (lAt M 0)] = .ok (.int w) := by unfold vecD; simp [w0]
    rw [t, bind_ok, if_neg (by simp), sNx_, WV_ok, seqK_nx, sSeq_, WV_bindO]
    unfold chkR
    rw [if_neg (by decide), w0]
    by_cases c : x.length = M.length
    · have c1 : lchC1 [.sh (matD M), .sh (vecD ts), .sh (.tup [.str "certificate", vecD x]), .sh (.str "certificate"), .sh (vecD x), .un, .un, .un, .un] g0 = .ok (.nx [.sh (matD M), .sh (vecD ts), .sh (.tup [.str "certificate", vecD x]), .sh (.str "certificate"), .sh (vecD x), .un, .un, .un, .un] g0) := by
        unfold lchC1
        simp [q2, lx, l0, c]
      rw [c1, WV_ok, seqK_nx, sSeq_, WV_bindO, decide_eq_true c, Bool.true_and]
      refine WV.mono (Q := fun o => (∃ g, o = .rt (.bl false) g ∧ ¬ ∀ j, j < w → colS M x j = 0) ∨ ∃ (s5 : Slot) (g : Rng), o = .nx [.sh (matD M), .sh (vecD ts), .sh (.tup [.str "certificate", vecD x]), .sh (.str "certificate"), .sh (vecD x), s5, .un, .un, .un] g ∧ ∀ j, j < w → colS M x j = 0) ?_ ?_
      · have hd := head_ok (M := M) m1 m5 (e := [.sh (matD M), .sh (vecD ts), .sh (.tup [.str "certificate", vecD x]), .sh (.str "certificate"), .sh (vecD x), .un, .un, .un, .un]) (g := g0) rfl
        unfold lchC2
        rw [sFor_]
        simp only [iRange_, eCall_, aCons_, aNil_, bind_ok, hd, l1, pureG_ok', iRK_1]
        rw [if_pos ⟨by omega, by omega⟩, bind_ok, Int.toNat_natCast, range_map]
        refine WV_forI (fun k e g => (∀ j, j < k → colS M x j = 0) ∧ ∃ s5 : Slot, e = [.sh (matD M), .sh (vecD ts), .sh (.tup [.str "certificate", vecD x]), .sh (.str "certificate"), .sh (vecD x), s5, .un, .un, .un]) ⟨fun j hj => absurd hj (Nat.not_lt_zero _), .un, rfl⟩ ?_ ?_
        · rintro k d hd e g ⟨hz, s5, rfl⟩
          have kw : k < w := by
            have := (List.getElem?_eq_some_iff.mp hd).1
            simpa using this
          rw [List.getElem?_map, List.getElem?_range kw] at hd
          cases hd
          refine ⟨_, rfl, ?_⟩
          show WV (lchB [.sh (matD M), .sh (vecD ts), .sh (.tup [.str "certificate", vecD x]), .sh (.str "certificate"), .sh (vecD x), .sh (.int (k : Nat)), .un, .un, .un] g) _
          have d0 := lcL_mapT (tf := gTp 2 (gsCons (gNm 7) (gsCons (gNm 6) gsNil))) (fe := eCall m__law_multiply (aCons (eVar 7) (aCons (eOp dIx (eVar 6) (eVar 5)) aNil))) (e := [.sh (matD M), .sh (vecD ts), .sh (.tup [.str "certificate", vecD x]), .sh (.str "certificate"), .sh (vecD x), .sh (.int (k : Nat)), .un, .un, .un]) (g := g) (φ := fun p : Rat × List Rat => .tup [frD p.1, rowX false p.2]) (ψ := fun p => frD (p.1 * rAt p.2 k)) (ts := x.zip M) fun p hp => ⟨_, rfl, by
            have hz := List.of_mem_zip hp
            have hpl : k < p.2.length := by rw [hw _ hz.2]; exact kw
            have i1 := row_ix (b := false) hpl
            have e1 := law_mul_ok (hx _ hz.1) (rb _ hz.2 _ (rAt_mem hpl)) (by decide)
            simp [i1, e1]⟩
          have t1 := lsum_ok (a := 320) (qs := (x.zip M).map fun p => p.1 * rAt p.2 k) (fun q hq => by
            obtain ⟨p, hp, rfl⟩ := List.mem_map.mp hq
            have hz := List.of_mem_zip hp
            exact rb_prod (hx _ hz.1) (rb _ hz.2 _ (rAt_mem (by rw [hw _ hz.2]; exact kw)))) (lt5 (by rw [List.length_map, List.length_zip]; omega) (by decide))
          have z : dZip [vecD x, matD M] = .ok (((x.map frD).zip (M.map (rowX false))).map fun q => .tup [q.1, q.2]) := rfl
          have al : aLc [7, 6] (iZipD (aCons (eVar 4) (aCons (eVar 0) aNil))) (gTp 2 (gsCons (gNm 7) (gsCons (gNm 6) gsNil))) mTrue (eCall m__law_multiply (aCons (eVar 7) (aCons (eOp dIx (eVar 6) (eVar 5)) aNil))) [.sh (matD M), .sh (vecD ts), .sh (.tup [.str "certificate", vecD x]), .sh (.str "certificate"), .sh (vecD x), .sh (.int (k : Nat)), .un, .un, .un] g = .ok (((x.zip M).map fun p => p.1 * rAt p.2 k).map frD, g) := by
            rw [aLc_]
            simp only [iZipD_, aCons_, aNil_, eVar_, List.getElem?_cons_zero, List.getElem?_cons_succ, bind_ok, z]
            rw [if_pos ⟨rfl, by simp; omega⟩, zipQ2, List.map_map]
            exact congrArg noErr d0
          have e2 := dNe_fr (colS M x k) 0
          have ct : (eTest (eOp dNe (eCall m__law_sum (aCons (eOfL (aLc [7, 6] (iZipD (aCons (eVar 4) (aCons (eVar 0) aNil))) (gTp 2 (gsCons (gNm 7) (gsCons (gNm 6) gsNil))) mTrue (eCall m__law_multiply (aCons (eVar 7) (aCons (eOp dIx (eVar 6) (eVar 5)) aNil))))) aNil)) (eTup (aCons (eC (.int 0)) (aCons (eC (.int 1)) aNil))))) [.sh (matD M), .sh (vecD ts), .sh (.tup [.str "certificate", vecD x]), .sh (.str "certificate"), .sh (vecD x), .sh (.int (k : Nat)), .un, .un, .un] g = .ok (!decide (colS M x k = 0), g) := by
            simp only [eTest_, eOp_, eCall_, aCons_, aNil_, eOfL_, bind_ok]
            rw [al]
            simp only [bind_ok]
            rw [t1]
            simp
            exact congrArg (fun r => (pureG r g).bind toB) e2
          unfold lchB
          rw [sIf_, ct, bind_ok]
          by_cases a : colS M x k = 0
          · simp only [a, decide_true, Bool.not_true, Bool.false_eq_true, if_false, sNx_]
            rw [WV_ok, outFor_nx]
            refine ⟨fun j hj => ?_, _, rfl⟩
            by_cases q : j = k
            · rw [q]; exact a
            · exact hz j (by omega)
          · simp only [a, decide_false, Bool.not_false, if_true]
            simp [borrow_nil]
            exact ⟨k, kw, a⟩
        · rintro e g ⟨hz, s5, rfl⟩
          rw [List.length_map, List.length_range] at hz
          exact .inr ⟨s5, g, rfl, hz⟩
      have zz : ((List.range w).map (colS M x) = List.replicate w 0) ↔ ∀ j, j < w → colS M x j = 0 := by
        rw [List.eq_replicate_iff]
        simp
      rintro o (⟨g, rfl, hn⟩ | ⟨s5, g, rfl, hz⟩)
      · rw [seqK_rt, WV_ok, rtI_rt]
        show D.bl false = D.bl (decide ((List.range w).map (colS M x) = List.replicate w 0) && _)
        rw [decide_eq_false (fun q => hn (zz.mp q)), Bool.false_and]
      · rw [seqK_nx]
        have e2 := dNe_fr (dotR x ts) 0
        have r1 := lrow_ok (a := 300) (b := 30) (n := 24) (u := x) (v := ts) (e := [.sh (matD M), .sh (vecD ts), .sh (.tup [.str "certificate", vecD x]), .sh (.str "certificate"), .sh (vecD x), s5, .un, .un, .un]) (g := g) 4 1 rfl rfl rfl rfl rfl hx tb (by decide) (by omega) (by decide) (by decide)
        unfold lchC3
        rw [sRet_, borrow_nil, eOp_, r1]
        simp
        rw [show D.tup [.int 0, .int 1] = frD 0 from rfl, e2]
        simp
        exact fun _ => zz.mpr hz
    · have c1 : lchC1 [.sh (matD M), .sh (vecD ts), .sh (.tup [.str "certificate", vecD x]), .sh (.str "certificate"), .sh (vecD x), .un, .un, .un, .un] g0 = .ok (.rt (.bl false) g0) := by
        unfold lchC1
        simp [q2, lx, l0, show ¬ (x.length : Int) = M.length by omega, borrow_nil]
      rw [c1, WV_ok, seqK_rt, WV_ok, rtI_rt, decide_eq_false c, Bool.false_and]
end
theorem castM (a b : Nat) : (((a * b : Nat) : Int) : Rat) = ((a : Int) : Rat) * ((b : Int) : Rat) := by push_cast; rfl
theorem isI_nat (k : Nat) : isI ((k : Int) : Rat) := ⟨k, rfl⟩
theorem absV_of_nn {q : Rat} (h : 0 ≤ q) : absV q = q := by unfold absV; rw [if_neg (by grind)]
theorem sumN_nn {n : Nat} {f : Nat → Rat} (h : ∀ i, i < n → 0 ≤ f i) : 0 ≤ sumN n f := by
  have := sumN_le (n := n) (f := fun _ => 0) (g := f) h
  rwa [sumN_zero fun _ _ => rfl] at this
theorem nrm_app {v : Vec} {x : Nat} : ∀ {l : List Nat}, nrm (l ++ [x]) v = nrm l v + absV (v x)
  | [] => by show absV (v x) + 0 = 0 + absV (v x); grind
  | a :: l => by
    show absV (v a) + nrm (l ++ [x]) v = absV (v a) + nrm l v + absV (v x)
    rw [nrm_app (l := l)]; grind
theorem nrm_range {v : Vec} : ∀ {n : Nat}, nrm (List.range n) v = sumN n fun c => absV (v c)
  | 0 => rfl
  | n + 1 => by rw [List.range_succ, nrm_app, nrm_range (n := n), sumN]
theorem sumN_split {f : Nat → Rat} (a : Nat) : ∀ b : Nat, sumN (a + b) f = sumN a f + sumN b fun i => f (a + i)
  | 0 => by show sumN a f = sumN a f + 0; grind
  | b + 1 => by
    rw [show a + (b + 1) = a + b + 1 from rfl, sumN, sumN_split a b, sumN]; grind
theorem prodR_const {c : Rat} : ∀ {l : List Nat}, prodR (l.map fun _ => c) = c ^ l.length
  | [] => by rw [List.map_nil, prodR, List.length_nil, Rat.pow_zero]
  | x :: l => by rw [List.map_cons, prodR, prodR_const (l := l), List.length_cons, Rat.pow_succ, Rat.mul_comm]
theorem cast_pow (a : Nat) : ∀ n : Nat, ((a : Int) : Rat) ^ n = (((a ^ n : Nat) : Int) : Rat)
  | 0 => by rw [Rat.pow_zero]; rfl
  | n + 1 => by rw [Rat.pow_succ, cast_pow a n, Nat.pow_succ, castM]
theorem solve_scaled {M : List (List Rat)} {ts : List Rat} {w E : Nat} (hm1 : 1 ≤ M.length) (hm : M.length ≤ 100) (hw : ∀ r, r ∈ M → r.length = w) (hw9 : w ≤ 100) (ht : ts.length = M.length) (hb : 3 * E + 2 ≤ 8990) {k : Nat → Nat} {C : Nat} (hk : ∀ i, i < M.length → 0 < k i)
    (hi : ∀ i, i < M.length → ∀ c, c < w → isI (((k i : Int) : Rat) * rAt (lAt M i) c)) (hit : ∀ i, i < M.length → isI (((k i : Int) : Rat) * rAt ts i))
    (hn : ∀ i, i < M.length → ((k i : Int) : Rat) * ((sumN w fun c => absV (rAt (lAt M i) c)) + absV (rAt ts i) + 1) ≤ ((C : Int) : Rat)) (hC : C ^ M.length < 2 ^ E) :
    ∃ d, m_solve_linear [matD M, vecD ts] = .ok d ∧
      ((∃ x : List Rat, d = .tup [.str "solution", vecD x] ∧ x.length = w ∧ (∀ i, i < M.length → (sumN w fun c => rAt (lAt M i) c * rAt x c) = rAt ts i) ∧ ∃ y : Int, y ≠ 0 ∧ y.natAbs < 2 ^ E ∧ ∀ c, ∃ z : Int, rAt x c * (y : Rat) = (z : Rat) ∧ z.natAbs < 2 ^ E) ∨
        ∃ c : List Rat, d = .tup [.str "certificate", vecD c] ∧ c.length = M.length ∧ (∀ x, x ∈ c → RB E x) ∧ (∀ k, k < w → (sumN M.length fun l => rAt c l * rAt (lAt M l) k) = 0) ∧ (sumN M.length fun l => rAt c l * rAt ts l) ≠ 0) := by
  have kr : ∀ i, i < M.length → (0 : Rat) < ((k i : Int) : Rat) := fun i h => by
    have := hk i h
    exact_mod_cast (show (0 : Int) < (k i : Int) by omega)
  have at_ := fun i (h : i < M.length) => linV_at (ts := ts) hw ht h
  have nb : ∀ i, i < M.length → nrm (List.range (w + 1 + M.length)) (fun c => ((k i : Int) : Rat) * linV M ts i c) ≤ ((C : Int) : Rat) := fun i h => by
    obtain ⟨a1, a2, a3, _⟩ := at_ i h
    have kn := Rat.le_of_lt (kr i h)
    have e1 : (sumN w fun c => absV (((k i : Int) : Rat) * linV M ts i c)) = ((k i : Int) : Rat) * sumN w fun c => absV (rAt (lAt M i) c) := by
      rw [← sumN_mul]
      exact sumN_congr fun c hc => by rw [absV_mul, absV_of_nn kn, a1 c hc]
    have e2 : (sumN M.length fun l => absV (((k i : Int) : Rat) * linV M ts i (w + 1 + l))) = ((k i : Int) : Rat) := by
      rw [sumN_one (p := i) h fun l hl hne => by
        rw [a3 l hl, if_neg (fun z => hne z.symm), Rat.mul_zero]; decide +kernel]
      rw [a3 i h, if_pos rfl, Rat.mul_one, absV_of_nn kn]
    rw [nrm_range, sumN_split (w + 1) M.length, sumN, e1, e2, a2, absV_mul, absV_of_nn kn]
    have := hn i h
    grind
  have kC : ∀ i, i < M.length → ((k i : Int) : Rat) ≤ ((C : Int) : Rat) := fun i h => by
    have h1 := hn i h
    have h2 := sumN_nn (n := w) (f := fun c => absV (rAt (lAt M i) c)) fun c _ => absV_nn _
    have h3 := absV_nn (rAt ts i)
    have := Rat.mul_le_mul_of_nonneg_left (show (1 : Rat) ≤ (sumN w fun c => absV (rAt (lAt M i) c)) + absV (rAt ts i) + 1 by grind) (Rat.le_of_lt (kr i h))
    grind
  have c1 : ∀ i, i < M.length → (1 : Rat) ≤ ((C : Int) : Rat) := fun i h => by
    have := hk i h
    have h1 : (1 : Rat) ≤ ((k i : Int) : Rat) := by exact_mod_cast (show (1 : Int) ≤ (k i : Int) by omega)
    have := kC i h
    grind
  have c2 : prodR ((List.range M.length).map fun _ => ((C : Int) : Rat)) < (((2 ^ E : Nat) : Int) : Rat) := by
    rw [prodR_const, List.length_range, cast_pow]
    exact Rat.intCast_lt_intCast.mpr (by exact_mod_cast hC)
  obtain ⟨d, e, h⟩ := solve_gen (E := E) (B := fun i c => ((k i : Int) : Rat) * linV M ts i c) (a := fun i => ((k i : Int) : Rat)⁻¹) hm1 hm hw hw9 ht hb (fun i h c => by
      have := kr i h
      have := Rat.inv_mul_cancel ((k i : Int) : Rat) (by grind)
      rw [← Rat.mul_assoc, this, Rat.one_mul]) ⟨fun i c h hc => by
      obtain ⟨a1, a2, a3, _⟩ := at_ i h
      by_cases c1 : c < w
      · rw [a1 c c1]; exact hi i h c c1
      · by_cases c2 : c = w
        · subst c2; rw [a2]; exact hit i h
        · obtain ⟨l, rfl⟩ : ∃ l, c = w + 1 + l := ⟨c - (w + 1), by omega⟩
          rw [a3 l (by omega)]
          split
          · rw [Rat.mul_one]; exact isI_nat _
          · rw [Rat.mul_zero]; exact isI_zero, fun _ => ((C : Int) : Rat), fun i h => ⟨c1 i h, nb i h, k i, hk i h, kC i h, rfl⟩, c2⟩
  refine ⟨d, e, ?_⟩
  rcases h with ⟨x, h1, h2, h3, h4⟩ | ⟨c, h1, h2, h3, h4, h5⟩
  · refine .inl ⟨x, h1, h2, fun i hi' => ?_, h4⟩
    obtain ⟨a1, a2, _, _⟩ := at_ i hi'
    have := h3 i hi'
    unfold Sat at this
    rw [a2] at this
    rw [← this]
    exact sumN_congr fun c hc => by rw [a1 c hc]
  · refine .inr ⟨c, h1, h2, h5, fun q hq => ?_, fun z => h4 ?_⟩
    · rw [← h3 q hq]
      exact sumN_congr fun l hl => by rw [(at_ l hl).1 q hq]
    · rw [← z]
      exact sumN_congr fun l hl => by rw [(at_ l hl).2.1]
theorem sumR_app (a : List Rat) (q : Rat) : sumR 0 (a ++ [q]) = sumR 0 a + q := by
  unfold sumR
  rw [List.foldl_append]
  rfl
theorem sumR_range (f : Nat → Rat) : ∀ n : Nat, sumR 0 ((List.range n).map f) = sumN n f
  | 0 => rfl
  | n + 1 => by rw [List.range_succ, List.map_append, List.map_cons, List.map_nil, sumR_app, sumR_range f n, sumN]
theorem zip_range {α : Type} {u : List Rat} {l : List α} {n : Nat} {f : Rat → α → Rat} {g : Nat → Rat} (hu : u.length = n) (hl : l.length = n) (h : ∀ i (hi : i < n), f (u[i]'(by omega)) (l[i]'(by omega)) = g i) : (u.zip l).map (fun p => f p.1 p.2) = (List.range n).map g := by
  apply List.ext_getElem
  · rw [List.length_map, List.length_zip, List.length_map, List.length_range]; omega
  · intro i h1 h2
    rw [List.length_map, List.length_range] at h2
    rw [List.getElem_map, List.getElem_map, List.getElem_zip, List.getElem_range]
    exact h i h2
theorem rAt_get {u : List Rat} {i : Nat} (h : i < u.length) : rAt u i = u[i] := by
  unfold rAt
  rw [List.getD_eq_getElem?_getD, List.getElem?_eq_getElem h]; rfl
theorem lAt_get {M : List (List Rat)} {i : Nat} (h : i < M.length) : lAt M i = M[i] := by
  unfold lAt
  rw [List.getD_eq_getElem?_getD, List.getElem?_eq_getElem h]; rfl
theorem dot_sum {u v : List Rat} {n : Nat} (hu : u.length = n) (hv : v.length = n) : dotR u v = sumN n fun c => rAt u c * rAt v c := by
  unfold dotR
  rw [← sumR_range, zip_range (f := fun a b => a * b) (g := fun c => rAt u c * rAt v c) hu hv fun i hi => by rw [rAt_get (by omega), rAt_get (by omega)]]
theorem col_sum {M : List (List Rat)} {c : List Rat} (hc : c.length = M.length) (j : Nat) : sumR 0 ((c.zip M).map fun p => p.1 * rAt p.2 j) = sumN M.length fun l => rAt c l * rAt (lAt M l) j := by
  rw [← sumR_range, zip_range (f := fun a b => a * rAt b j) (g := fun l => rAt c l * rAt (lAt M l) j) hc rfl fun i hi => by rw [lAt_get hi, rAt_get (u := c) (i := i) (by omega)]]
theorem rb_of_yz {q : Rat} {E : Nat} {y z : Int} (y0 : y ≠ 0) (hy : y.natAbs < 2 ^ E) (e : q * (y : Rat) = (z : Rat)) (hz : z.natAbs < 2 ^ E) : RB E q := rb_frac y0 hy e hz
def Good (M : List (List Rat)) (ts : List Rat) (E : Nat) (d : D) : Prop := ∃ (k : Str) (x : List Rat), d = .tup [.str k, vecD x] ∧ (k = "solution" ∨ k = "certificate") ∧ (∀ q, q ∈ x → RB E q) ∧ x.length ≤ 24 ∧ chkR M ts k x = true
theorem solve_good {M : List (List Rat)} {ts : List Rat} {w E kk C : Nat} (G : LinG M ts) (hw : ∀ r, r ∈ M → r.length = w) (w24 : w ≤ 24) (hb : 3 * E + 2 ≤ 8990) (hk : 0 < kk) (hi : ∀ r, r ∈ M → ∀ q, q ∈ r → isI (((kk : Int) : Rat) * q)) (hit : ∀ q, q ∈ ts → isI (((kk : Int) : Rat) * q))
    (hn : ∀ i, i < M.length → ((kk : Int) : Rat) * ((sumN w fun c => absV (rAt (lAt M i) c)) + absV (rAt ts i) + 1) ≤ ((C : Int) : Rat)) (hC : C ^ M.length < 2 ^ E) :
    ∃ d, m_solve_linear [matD M, vecD ts] = .ok d ∧ Good M ts E d := by
  have m1 := G.m1
  have m5 := G.m5
  have tl := G.t
  have w0 : (lAt M 0).length = w := hw _ (lAt_mem (by omega))
  obtain ⟨d, e, h⟩ := solve_scaled (E := E) (k := fun _ => kk) (C := C) m1 (by omega) hw (by omega) tl hb (fun _ _ => hk) (fun i h c hc => by
    have hl := hw _ (lAt_mem h)
    rw [rAt_get (by omega)]
    exact hi _ (lAt_mem h) _ (List.getElem_mem _)) (fun i h => by
    rw [rAt_get (by omega)]
    exact hit _ (List.getElem_mem _)) hn hC
  refine ⟨d, e, ?_⟩
  rcases h with ⟨x, h1, h2, h3, y, y0, yE, yz⟩ | ⟨c, h1, h2, h5, h3, h4⟩
  · refine ⟨"solution", x, h1, .inl rfl, fun q hq => ?_, by omega, ?_⟩
    · obtain ⟨i, hi', rfl⟩ := List.mem_iff_getElem.mp hq
      obtain ⟨z, e1, e2⟩ := yz i
      rw [rAt_get hi'] at e1
      exact rb_of_yz y0 yE e1 e2
    · unfold chkR
      rw [if_pos rfl, w0, decide_eq_true h2, Bool.true_and, decide_eq_true_eq]
      apply List.ext_getElem
      · rw [List.length_map]; exact tl.symm
      · intro i q1 q2
        rw [List.length_map] at q1
        have := h3 i q1
        rw [List.getElem_map, dot_sum (n := w) (hw _ (List.getElem_mem _)) h2, ← rAt_get q2, ← this]
        exact sumN_congr fun c hc => by rw [lAt_get q1]
  · refine ⟨"certificate", c, h1, .inr rfl, h5, by omega, ?_⟩
    unfold chkR
    rw [if_neg (by decide), w0, decide_eq_true h2, Bool.true_and, Bool.and_eq_true]
    refine ⟨?_, ?_⟩
    · rw [decide_eq_true_eq]
      apply List.ext_getElem
      · simp
      · intro i q1 q2
        rw [List.length_replicate] at q2
        rw [List.getElem_map, List.getElem_range, List.getElem_replicate, col_sum h2]
        exact h3 i q2
    · rw [Bool.not_eq_true', decide_eq_false_iff_not, dot_sum (n := M.length) h2 tl]
      exact h4
theorem ci_abs {N B j kk : Nat} {q : Rat} (h : CI N B q) (e : kk = N * j) : isI (((kk : Int) : Rat) * q) ∧ ((kk : Int) : Rat) * absV q ≤ (((j * B : Nat) : Int) : Rat) := by
  obtain ⟨x, hx, hb⟩ := h
  have ek : ((kk : Int) : Rat) = ((N : Int) : Rat) * ((j : Int) : Rat) := by rw [e, castM]
  have e1 : ((kk : Int) : Rat) * q = (((x * (j : Int)) : Int) : Rat) := by
    rw [ek, Rat.intCast_mul, ← hx]; grind
  have kn : (0 : Rat) ≤ ((kk : Int) : Rat) := by exact_mod_cast (show (0 : Int) ≤ (kk : Int) by omega)
  refine ⟨⟨_, e1⟩, ?_⟩
  have e2 : ((kk : Int) : Rat) * absV q = absV (((x * (j : Int)) : Int) : Rat) := by
    rw [← e1, absV_mul, absV_of_nn kn]
  rw [e2, Rat.intCast_mul, absV_mul, castM]
  have jn : (0 : Rat) ≤ ((j : Int) : Rat) := by exact_mod_cast (show (0 : Int) ≤ (j : Int) by omega)
  rw [absV_of_nn jn, Rat.mul_comm]
  refine Rat.mul_le_mul_of_nonneg_left ?_ jn
  unfold absV
  split
  · rw [← Rat.intCast_neg]; exact Rat.intCast_le_intCast.mpr (by omega)
  · exact Rat.intCast_le_intCast.mpr (by omega)
theorem sumN_bd {n : Nat} {f : Nat → Rat} {b : Rat} (h : ∀ i, i < n → f i ≤ b) : sumN n f ≤ ((n : Int) : Rat) * b := by
  induction n with
  | zero => show (0 : Rat) ≤ ((0 : Int) : Rat) * b; have : ((0 : Int) : Rat) = 0 := rfl; rw [this]; grind
  | succ n ih =>
    have h1 := ih fun i hi => h i (by omega)
    have h2 := h n (by omega)
    have e : (((n + 1 : Nat) : Int) : Rat) = ((n : Int) : Rat) + 1 := by push_cast; rfl
    rw [sumN, e]
    grind
theorem solve_k {M : List (List Rat)} {ts : List Rat} {w E kk a b : Nat} (G : LinG M ts) (hw : ∀ r, r ∈ M → r.length = w) (w24 : w ≤ 24) (hb : 3 * E + 2 ≤ 8990) (hk : 0 < kk) (hi : ∀ r, r ∈ M → ∀ q, q ∈ r → isI (((kk : Int) : Rat) * q) ∧ ((kk : Int) : Rat) * absV q ≤ ((a : Int) : Rat)) (hit : ∀ q, q ∈ ts → isI (((kk : Int) : Rat) * q) ∧ ((kk : Int) : Rat) * absV q ≤ ((b : Int) : Rat))
    (hC : (24 * a + b + kk) ^ M.length < 2 ^ E) : ∃ d, m_solve_linear [matD M, vecD ts] = .ok d ∧ Good M ts E d := by
  have tl := G.t
  refine solve_good G hw w24 hb hk (fun r hr q hq => (hi r hr q hq).1) (fun q hq => (hit q hq).1) (fun i h => ?_) hC
  have hl := hw _ (lAt_mem h)
  have s1 : ((kk : Int) : Rat) * (sumN w fun c => absV (rAt (lAt M i) c)) ≤ ((w : Int) : Rat) * ((a : Int) : Rat) := by
    rw [← sumN_mul]
    refine sumN_bd fun c hc => ?_
    rw [rAt_get (by omega)]
    exact (hi _ (lAt_mem h) _ (List.getElem_mem _)).2
  have s2 : ((kk : Int) : Rat) * absV (rAt ts i) ≤ ((b : Int) : Rat) := by
    rw [rAt_get (by omega)]
    exact (hit _ (List.getElem_mem _)).2
  have s3 : ((w : Int) : Rat) * ((a : Int) : Rat) ≤ (((24 * a : Nat) : Int) : Rat) := by
    rw [← castM]
    exact Rat.intCast_le_intCast.mpr (by have := Nat.mul_le_mul_right a w24; omega)
  have e : (((24 * a + b + kk : Nat) : Int) : Rat) = (((24 * a : Nat) : Int) : Rat) + ((b : Int) : Rat) + ((kk : Int) : Rat) := by push_cast; rfl
  rw [e]
  grind
theorem Lin.g {M : List (List Rat)} {ts : List Rat} (h : Lin M ts) : LinG M ts := by
  obtain ⟨w, w1, w5, hw⟩ := h.w
  have m5 := h.m5
  refine ⟨h.m1, by omega, ⟨w, w1, by omega, hw⟩, h.t, fun r hr q hq => (h.rb r hr q hq).1, fun q hq => ?_⟩
  obtain ⟨x, hx, hb⟩ := (h.tb q hq).2
  exact rb_frac (z := 1728) (x := x) (by decide) (by decide) hx (by omega)
theorem lin_good {M : List (List Rat)} {ts : List Rat} (h : Lin M ts) : ∃ d, m_solve_linear [matD M, vecD ts] = .ok d ∧ Good M ts 131 d := by
  obtain ⟨w, w1, w5, hw⟩ := h.w
  have m5 := h.m5
  refine solve_k (kk := 1728) (a := 12 * 39168) (b := 37601280) h.g hw (by omega) (by decide) (by decide) (fun r hr q hq => ci_abs (j := 12) (h.rb r hr q hq).2 (by decide)) (fun q hq => ?_) ?_
  · have := ci_abs (j := 1) (kk := 1728) (h.tb q hq).2 (by decide)
    rw [Nat.one_mul] at this
    exact this
  · exact Nat.lt_of_le_of_lt (Nat.pow_le_pow_right (by decide) m5) (by decide +kernel)
structure Pat (I : Nat → Prop) (pt : En → En) : Prop where
  get : ∀ i e, I i → (pt e)[i]? = e[i]?
  set : ∀ i x e, I i → (pt e).set i x = pt (e.set i x)
  bor : ∀ B e, (∀ i, i ∈ B → I i) → borrow B (pt e) = pt (borrow B e)
def mo (pt : En → En) (r : Res Out) : Res Out := match r with
  | .ok (.nx e g) => .ok (.nx (pt e) g)
  | .ok (.bk e g) => .ok (.bk (pt e) g)
  | .ok (.ct e g) => .ok (.ct (pt e) g)
  | .ok (.rt d g) => .ok (.rt d g)
  | .err x => .err x
  | .stuck => .stuck
section
variable {I : Nat → Prop} {pt : En → En} (P : Pat I pt)
def NE {α : Type} (pt : En → En) (f : En → Rng → α) : Prop := ∀ e g, f (pt e) g = f e g
def NS (pt : En → En) (f : MS) : Prop := ∀ e g, f (pt e) g = mo pt (f e g)
def NT (pt : En → En) (f : TgF) : Prop := ∀ d e, f d (pt e) = (f d e).map pt
def NTs (pt : En → En) (f : TgFs) : Prop := ∀ d e, f d (pt e) = (f d e).map pt
variable {a b : ME} {l m : MA} {t u : MT} {p q : MP} {s r : MS} {tf : TgF} {tfs : TgFs}
theorem ne_C {d : D} : NE pt (eC d) := fun e g => rfl
theorem ne_nil : NE pt aNil := fun e g => rfl
theorem ne_no : NE pt pNo := fun e g => rfl
include P in
theorem ne_var {i : Nat} (h : I i) : NE pt (eVar i) := fun e g => by simp only [eVar_, P.get i e h]
theorem ne_op {f : D → D → Res D} (ha : NE pt a) (hb : NE pt b) : NE pt (eOp f a b) := fun e g => by unfold eOp; rw [ha e g]; congr 1; funext x; rw [hb]
theorem ne_cons (ha : NE pt a) (hl : NE pt l) : NE pt (aCons a l) := fun e g => by unfold aCons; rw [ha e g]; congr 1; funext x; rw [hl]
theorem ne_call {f : List D → Res D} (hl : NE pt l) : NE pt (eCall f l) := fun e g => by unfold eCall; rw [hl e g]
theorem ne_test (ha : NE pt a) : NE pt (eTest a) := fun e g => by unfold eTest; rw [ha e g]
theorem ne_and (ha : NE pt t) (hb : NE pt u) : NE pt (tAndM t u) := fun e g => by unfold tAndM; rw [ha e g]; congr 1; funext x; rw [hb]
theorem ne_tup (hl : NE pt l) : NE pt (eTup l) := fun e g => by unfold eTup; rw [hl e g]
theorem ne_lst (hl : NE pt l) : NE pt (aLst l) := fun e g => by unfold aLst; rw [hl e g]
theorem ne_ofL (hl : NE pt l) : NE pt (eOfL l) := fun e g => by unfold eOfL; rw [hl e g]
theorem ne_at (ha : NE pt a) : NE pt (pAt a) := fun e g => by unfold pAt; rw [ha e g]
theorem ne_sl (ha : NE pt a) (hp : NE pt p) (hq : NE pt q) : NE pt (eSl a p q) := fun e g => by
  unfold eSl; rw [ha e g]; congr 1; funext x; rw [hp]; congr 1; funext y; rw [hq]
theorem ne_asl (ha : NE pt a) (hp : NE pt p) (hq : NE pt q) : NE pt (aSl a p q) := fun e g => by
  unfold aSl; rw [ha e g]; congr 1; funext x; rw [hp]; congr 1; funext y; rw [hq]
theorem ne_rep (ha : NE pt a) (hb : NE pt b) : NE pt (aRepL a b) := fun e g => by unfold aRepL; rw [ha e g]; congr 1; funext x; rw [hb]
theorem ne_seq (ha : NE pt a) : NE pt (iSeqD a) := fun e g => by unfold iSeqD; rw [ha e g]
theorem ne_range (hl : NE pt l) : NE pt (iRange l) := fun e g => by unfold iRange; rw [hl e g]
theorem ne_enum (hl : NE pt l) : NE pt (iEnumD l) := fun e g => by unfold iEnumD; rw [hl e g]
theorem ne_true : NE pt mTrue := fun e g => rfl
include P in
theorem nt_nm {i : Nat} (h : I i) : NT pt (gNm i) := fun d e => by unfold gNm; rw [P.set i _ e h]; rfl
theorem nts_nil : NTs pt gsNil := fun d e => by cases d <;> rfl
theorem nts_cons (h1 : NT pt tf) (h2 : NTs pt tfs) : NTs pt (gsCons tf tfs) := fun d e => by
  cases d with
  | nil => rfl
  | cons x d =>
    show (tf x (pt e)).bind (fun e' => tfs d e') = ((tf x e).bind fun e' => tfs d e').map pt
    rw [h1]
    cases tf x e with
    | none => rfl
    | some e1 => exact h2 d e1
theorem nt_tp {n : Nat} (h : NTs pt tfs) : NT pt (gTp n tfs) := fun d e => by
  unfold gTp
  cases d <;> first | rfl | skip
  simp only
  split
  · exact h _ _
  · rfl
theorem wipe_pat (P : Pat I pt) : ∀ (vs : List Nat) (e : En), (∀ v, v ∈ vs → I v) → wipeE (pt e) vs = pt (wipeE e vs)
  | [], e, _ => rfl
  | v :: vs, e, h => by
    unfold wipeE
    rw [wipe_pat P vs e fun x hx => h x (List.mem_cons_of_mem _ hx), P.set v _ _ (h v List.mem_cons_self)]
theorem lcL_pat {ft : MT} {fe : ME} (h1 : NT pt tf) (h2 : NE pt ft) (h3 : NE pt fe) : ∀ (ds : List D) (e : En) (g : Rng), lcL tf ft fe ds (pt e) g = lcL tf ft fe ds e g
  | [], e, g => rfl
  | d :: ds, e, g => by
    unfold lcL
    rw [h1]
    cases tf d e with
    | none => rfl
    | some e1 =>
      simp only [Option.map_some]
      rw [h2 e1 g]
      congr 1; funext x
      rw [h3]
      split
      · congr 1; funext y
        rw [lcL_pat h1 h2 h3 ds]
      · exact lcL_pat h1 h2 h3 ds e _
include P in
theorem ne_lc {vs : List Nat} {ft : MT} {fe : ME} (hv : ∀ v, v ∈ vs → I v) (hl : NE pt l) (h1 : NT pt tf) (h2 : NE pt ft) (h3 : NE pt fe) : NE pt (aLc vs l tf ft fe) := fun e g => by
  unfold aLc
  rw [hl e g]
  congr 1; funext x
  rw [wipe_pat P vs e hv, lcL_pat h1 h2 h3]
  split
  · rename_i c
    rw [if_pos ⟨List.all_eq_true.mpr fun v hv' => by have := List.all_eq_true.mp c.1 v hv'; rw [P.get v e (hv v hv')] at this; exact this, c.2⟩]
  · rename_i c
    rw [if_neg fun z => c ⟨List.all_eq_true.mpr fun v hv' => by rw [P.get v e (hv v hv')]; exact List.all_eq_true.mp z.1 v hv', z.2⟩]
include P in
theorem ne_borF {B : List Nat} (hB : ∀ i, i ∈ B → I i) (hl : NE pt l) : NE pt (borF B l) := fun e g => by unfold borF; rw [P.bor B e hB, hl]
theorem ns_nx : NS pt sNx := fun e g => rfl
theorem ns_seq (h1 : NS pt s) (h2 : NS pt r) : NS pt (sSeq s r) := fun e g => by
  unfold sSeq
  rw [h1 e g]
  cases s e g with
  | ok o => cases o <;> first | rfl | exact h2 _ _
  | err x => rfl
  | stuck => rfl
theorem ns_if (h0 : NE pt t) (h1 : NS pt s) (h2 : NS pt r) : NS pt (sIf t s r) := fun e g => by
  unfold sIf
  rw [h0 e g]
  cases t e g with
  | ok o =>
    show (if o.1 = true then s (pt e) o.2 else r (pt e) o.2) = mo pt (if o.1 = true then s e o.2 else r e o.2)
    split
    · exact h1 _ _
    · exact h2 _ _
  | err x => rfl
  | stuck => rfl
include P in
theorem ns_asg {i : Nat} (hi : I i) (ha : NE pt a) : NS pt (sAsg i a) := fun e g => by
  unfold sAsg
  rw [ha e g]
  cases a e g with
  | ok o => show Res.ok (Out.nx ((pt e).set i _) _) = _; rw [P.set i _ e hi]; rfl
  | err x => rfl
  | stuck => rfl
include P in
theorem ns_asgF {i : Nat} (hi : I i) (ha : NE pt l) : NS pt (sAsgF i l) := fun e g => by
  unfold sAsgF
  rw [ha e g]
  cases l e g with
  | ok o => show Res.ok (Out.nx ((pt e).set i _) _) = _; rw [P.set i _ e hi]; rfl
  | err x => rfl
  | stuck => rfl
include P in
theorem ns_app {i : Nat} (hi : I i) (ha : NE pt a) : NS pt (sApp i a) := fun e g => by
  unfold sApp
  rw [P.get i e hi]
  cases hs : e[i]? with
  | none => rfl
  | some x =>
    cases x <;> first | rfl | skip
    simp only
    rw [ha e g]
    cases a e g with
    | ok o =>
      simp only [bind_ok]
      split
      · rw [P.set i _ e hi]; rfl
      · rfl
    | err x => rfl
    | stuck => rfl
include P in
theorem ns_setI {i : Nat} (hi : I i) (ha : NE pt a) (hb : NE pt b) : NS pt (sSetI i a b) := fun e g => by
  unfold sSetI
  rw [P.get i e hi]
  cases hs : e[i]? with
  | none => rfl
  | some x =>
    cases x <;> first | rfl | skip
    simp only
    rw [ha e g]
    cases a e g with
    | ok o =>
      simp only [bind_ok]
      rw [hb e o.2]
      cases b e o.2 with
      | ok o2 =>
        simp only [bind_ok]
        split
        · split
          · rw [P.set i _ e hi]; rfl
          · rfl
        · rfl
      | err x => rfl
      | stuck => rfl
    | err x => rfl
    | stuck => rfl
include P in
theorem ns_frz {B : List Nat} (hB : ∀ i, i ∈ B → I i) (h : NS pt s) : NS pt (sFrz B s) := fun e g => by unfold sFrz; rw [P.bor B e hB, h]
theorem ns_noRt (h : NS pt s) : NS pt (sNoRt s) := fun e g => by
  unfold sNoRt
  rw [h e g]
  cases s e g with
  | ok o => cases o <;> rfl
  | err x => rfl
  | stuck => rfl
theorem ns_retCF {c : Str} (h : NE pt l) : NS pt (sRetCF c l) := fun e g => by
  unfold sRetCF
  rw [h e g]
  cases l e g <;> rfl
include P in
theorem ns_retCO {c : Str} {j : Nat} (hj : I j) : NS pt (sRetCO c j) := fun e g => by
  unfold sRetCO
  rw [P.get j e hj]
  split <;> rfl
theorem forL_pat (h1 : NT pt tf) (h2 : NS pt s) : ∀ (ds : List D) (e : En) (g : Rng), forL tf s ds (pt e) g = mo pt (forL tf s ds e g)
  | [], e, g => rfl
  | d :: ds, e, g => by
    unfold forL
    rw [h1]
    cases tf d e with
    | none => rfl
    | some e1 =>
      simp only [Option.map_some]
      rw [h2 e1 g]
      cases s e1 g with
      | ok o => cases o <;> first | rfl | exact forL_pat h1 h2 ds _ _
      | err x => rfl
      | stuck => rfl
theorem ns_for (h0 : NE pt l) (h1 : NT pt tf) (h2 : NS pt s) : NS pt (sFor l tf s) := fun e g => by
  unfold sFor
  rw [h0 e g]
  cases l e g with
  | ok o => exact forL_pat h1 h2 _ _ _
  | err x => rfl
  | stuck => rfl
end
theorem shape_gen2 {M : List (List Rat)} {ts : List Rat} {w : Nat} (hm1 : 1 ≤ M.length) (hm : M.length ≤ 100) (hw : ∀ r, r ∈ M → r.length = w) (hw9 : w ≤ 900) (ht : ts.length = M.length) (c : List D → D) (hc : c = .lst ∨ c = .tup) (c2 : List D → D) (hc2 : c2 = .lst ∨ c2 = .tup) (f : List Rat → D) (hf : (∀ r, f r = .lst (r.map frD)) ∨ ∀ r, f r = .tup (r.map frD)) : m_check_shape [c (M.map f), c2 (ts.map frD)] = .ok .non := by
  have len : ∀ r, r ∈ M → dLen [f r] = .ok (.int w) := fun r hr => by
    rcases hf with hf | hf
    · rw [hf]; simp [hw r hr]
    · rw [hf]; simp [hw r hr]
  have lenc : ∀ l : List D, dLen [c l] = .ok (.int l.length) := fun l => by rcases hc with rfl | rfl <;> simp
  have lenc2 : ∀ l : List D, dLen [c2 l] = .ok (.int l.length) := fun l => by rcases hc2 with rfl | rfl <;> simp
  have ixc : ∀ (l : List D) (d : D), dIx (c (d :: l)) (.int 0) = .ok d := fun l d => by rcases hc with rfl | rfl <;> simp [atI, ixN]
  have enc : ∀ l : List D, dEnum [c l] = .ok (enumD 0 l) := fun l => by
    rcases hc with rfl | rfl
    · show Res.ok _ = Res.ok _
      unfold enumD
      simp
    · show Res.ok _ = Res.ok _
      unfold enumD
      simp
  rw [m_check_shape, runD, if_pos (by rfl)]
  show resD (b_check_shape [.sh (c (M.map f)), .sh (c2 (ts.map frD)), .un, .un] g0) = _
  have hM : ∃ r0 M0, M = r0 :: M0 := by
    have := hm1
    cases M with
    | nil => simp at this
    | cons r0 M0 => exact ⟨r0, M0, rfl⟩
  obtain ⟨r0, M0, rfl⟩ := hM
  have loop : ∀ (L : List (List Rat)) (k : Nat) (s2 s3 : Slot), (∀ r, r ∈ L → r ∈ r0 :: M0) → ∃ s2' s3', forL (gTp 2 (gsCons (gNm 2) (gsCons (gNm 3) gsNil))) (sIf (eTest (eOp dNe (eCall dLen (aCons (eVar 3) aNil)) (eCall dLen (aCons (eOp dIx (eVar 0) (eC (.int 0))) aNil)))) sBad sNx) (enumD k (L.map f)) [.sh (c ((r0 :: M0).map f)), .sh (c2 (ts.map frD)), s2, s3] g0 = .ok (.nx [.sh (c ((r0 :: M0).map f)), .sh (c2 (ts.map frD)), s2', s3'] g0) := by
    intro L
    induction L with
    | nil => intro k s2 s3 _; exact ⟨s2, s3, by simp [forL, enumD]⟩
    | cons r L ih =>
      intro k s2 s3 hs
      obtain ⟨t2, t3, e⟩ := ih (k + 1) (.sh (.int k)) (.sh (f r)) fun x hx => hs x (List.mem_cons_of_mem _ hx)
      refine ⟨t2, t3, ?_⟩
      have tf : (gTp 2 (gsCons (gNm 2) (gsCons (gNm 3) gsNil))) (.tup [.int (k : Nat), f r]) [.sh (c ((r0 :: M0).map f)), .sh (c2 (ts.map frD)), s2, s3] = some [.sh (c ((r0 :: M0).map f)), .sh (c2 (ts.map frD)), .sh (.int (k : Nat)), .sh (f r)] := rfl
      have l1 := len r (hs r List.mem_cons_self)
      have l2 := len r0 List.mem_cons_self
      rw [List.map_cons, enumD_cons, forL]
      simp only [tf]
      have b : (sIf (eTest (eOp dNe (eCall dLen (aCons (eVar 3) aNil)) (eCall dLen (aCons (eOp dIx (eVar 0) (eC (.int 0))) aNil)))) sBad sNx) [.sh (c ((r0 :: M0).map f)), .sh (c2 (ts.map frD)), .sh (.int (k : Nat)), .sh (f r)] g0 = .ok (.nx [.sh (c ((r0 :: M0).map f)), .sh (c2 (ts.map frD)), .sh (.int (k : Nat)), .sh (f r)] g0) := by
        have i0 := ixc (M0.map f) (f r0)
        simp [l1, l2, i0]
      rw [b]
      simp only [bind_ok]
      exact e
  obtain ⟨s2, s3, e⟩ := loop (r0 :: M0) 0 .un .un fun r h => h
  have hb : b_check_shape = sSeq (sFor (iEnumD (aCons (eVar 0) aNil)) (gTp 2 (gsCons (gNm 2) (gsCons (gNm 3) gsNil))) (sIf (eTest (eOp dNe (eCall dLen (aCons (eVar 3) aNil)) (eCall dLen (aCons (eOp dIx (eVar 0) (eC (.int 0))) aNil)))) sBad sNx)) (sIf (eTest (eOp dNe (eCall dLen (aCons (eVar 1) aNil)) (eCall dLen (aCons (eVar 0) aNil)))) sBad sNx) := rfl
  rw [hb, sSeq_, sFor_]
  simp only [iEnumD_, aCons_, aNil_, eVar_, List.getElem?_cons_zero, bind_ok, enc]
  rw [e]
  simp only [bind_ok, seqK_nx]
  have t1 := ht
  have lm := lenc (f r0 :: M0.map f)
  have lt := lenc2 (ts.map frD)
  simp only [List.length_cons, List.length_map] at lm lt
  rw [Int.natCast_add] at lm
  simp [lm, lt, t1]
def pt3 (a b c : Slot) (e : En) : En := ((e.set 0 a).set 1 b).set 5 c
def I3 (i : Nat) : Prop := i ≠ 0 ∧ i ≠ 1 ∧ i ≠ 5
theorem borrow_set {B : List Nat} {e : En} {i : Nat} {x : Slot} (h : x.isOw = false) : borrow B (e.set i x) = (borrow B e).set i x := by
  apply List.ext_getElem?
  intro k
  unfold borrow
  rw [List.getElem?_mapIdx, List.getElem?_set, List.getElem?_set, List.getElem?_mapIdx, List.length_mapIdx]
  by_cases c : i = k
  · subst c
    simp only [if_true]
    by_cases d : i < e.length
    · simp only [d, if_true, Option.map_some]
      cases x <;> first | rfl | (simp [Slot.isOw] at h)
    · simp only [d, if_false]; rfl
  · simp only [c, if_false]
theorem pat3 {a b c : Slot} (ha : a.isOw = false) (hb : b.isOw = false) (hc : c.isOw = false) : Pat I3 (pt3 a b c) where
  get := fun i e h => by
    unfold pt3
    rw [List.getElem?_set_ne (fun z => h.2.2 z.symm), List.getElem?_set_ne (fun z => h.2.1 z.symm), List.getElem?_set_ne (fun z => h.1 z.symm)]
  set := fun i x e h => by
    unfold pt3
    rw [List.set_comm _ _ (fun z => h.2.2 z.symm), List.set_comm _ _ (fun z => h.2.1 z.symm), List.set_comm _ _ (fun z => h.1 z.symm)]
  bor := fun B e _ => by
    unfold pt3
    rw [borrow_set hc, borrow_set hb, borrow_set ha]
def restS : MS := sSeq (sNoRt (sFrz [3] (sAsgF 7 (aLst aNil)))) (sSeq (sNoRt (sFor (iRange (aCons (eVar 2) aNil)) (gNm 8) (sSeq solB1 (sSeq solB2 solB3)))) (sSeq (sFor (iSeqD (eVar 3)) (gNm 9) solCT) (sSeq (sNoRt (sFrz [7] (sAsgF 10 (aRepL (eOfL (aLst (aCons (eC k_ZERO) aNil))) (eVar 2))))) (sSeq (sNoRt (sFor (iSeqD (eVar 7)) (gTp 2 (gsCons (gNm 4) (gsCons (gNm 8) gsNil))) solD)) (sRetCO "solution" 10)))))
theorem i3 {i : Nat} (h : (i != 0 && i != 1 && i != 5) = true := by decide) : I3 i := by
  simp at h
  exact ⟨h.1.1, h.1.2, h.2⟩
theorem i3s {B : List Nat} (h : (B.all fun i => i != 0 && i != 1 && i != 5) = true := by decide) : ∀ i, i ∈ B → I3 i := fun i hi => i3 (List.all_eq_true.mp h i hi)
theorem rest_pat {pt : En → En} (P : Pat I3 pt) : NS pt restS := by
  have v : ∀ i, I3 i → NE pt (eVar i) := fun i h => ne_var P h
  have hB1 : NS pt solB1 := ns_asg P i3 (ne_ofL (ne_borF P i3s (ne_lc P i3s (ne_seq (v 7 i3)) (nt_tp (nts_cons (nt_nm P i3) (nts_cons (nt_nm P i3) nts_nil))) ne_true (v 13 i3))))
  have hB2 : NS pt solB2 := ns_asg P i3 (ne_ofL (ne_lc P i3s (ne_enum (ne_cons (v 3 i3) ne_nil)) (nt_tp (nts_cons (nt_nm P i3) (nts_cons (nt_nm P i3) nts_nil))) (ne_and (ne_test (ne_op (v 4 i3) (v 11 i3))) (ne_test (ne_op (ne_op (v 9 i3) (v 8 i3)) ne_C))) (v 4 i3)))
  have hB3 : NS pt solB3 := ns_if (ne_test (ne_op (v 12 i3) (ne_ofL (ne_lst ne_nil)))) (ns_seq (ns_asg P i3 (ne_call (ne_cons (v 3 i3) (ne_cons (ne_op (v 12 i3) ne_C) (ne_cons (v 8 i3) ne_nil))))) (ns_app P i3 (ne_tup (ne_cons (ne_op (v 12 i3) ne_C) (ne_cons (v 8 i3) ne_nil))))) ns_nx
  have hC : NS pt solCT := ns_if (ne_and (ne_test (ne_op (ne_op (v 9 i3) (v 2 i3)) ne_C)) (ne_test (ne_op (ne_sl (v 9 i3) ne_no (ne_at (v 2 i3))) (ne_op (ne_ofL (ne_lst (ne_cons ne_C ne_nil))) (v 2 i3))))) (ns_retCF (ne_asl (v 9 i3) (ne_at (ne_op (v 2 i3) ne_C)) ne_no)) ns_nx
  have hD : NS pt solD := ns_setI P i3 (ne_op (ne_op (v 3 i3) (v 4 i3)) (v 2 i3)) (v 8 i3)
  exact ns_seq (ns_noRt (ns_frz P i3s (ns_asgF P i3 (ne_lst ne_nil)))) (ns_seq (ns_noRt (ns_for (ne_range (ne_cons (v 2 i3) ne_nil)) (nt_nm P i3) (ns_seq hB1 (ns_seq hB2 hB3)))) (ns_seq (ns_for (ne_seq (v 3 i3)) (nt_nm P i3) hC) (ns_seq (ns_noRt (ns_frz P i3s (ns_asgF P i3 (ne_rep (ne_ofL (ne_lst (ne_cons ne_C ne_nil))) (v 2 i3))))) (ns_seq (ns_noRt (ns_for (ne_seq (v 7 i3)) (nt_tp (nts_cons (nt_nm P i3) (nts_cons (nt_nm P i3) nts_nil))) hD)) (ns_retCO P i3)))))
def pairsF (f : List Rat → D) (k : Nat) : List (List Rat × Rat) → List D
  | [] => []
  | p :: l => .tup [.int (k : Nat), .tup [f p.1, frD p.2]] :: pairsF f (k + 1) l
def fin4 (k : Nat) : List (List Rat × Rat) → Slot → Slot
  | [], s => s
  | _ :: l, _ => fin4 (k + 1) l (.sh (.int k))
def fin5 (f : List Rat → D) : List (List Rat × Rat) → Slot → Slot
  | [], s => s
  | p :: l, _ => fin5 f l (.sh (f p.1))
def fin6 : List (List Rat × Rat) → Slot → Slot
  | [], s => s
  | p :: l, _ => fin6 l (.sh (frD p.2))
theorem fin5_no {f : List Rat → D} : ∀ (l : List (List Rat × Rat)) (s : Slot), s.isOw = false → (fin5 f l s).isOw = false
  | [], _, h => h
  | _ :: l, _, _ => fin5_no l _ rfl
section
variable {A : D} {f : List Rat → D} {n : Nat} (hA : dLen [A] = .ok (.int (n : Nat))) (hf : ∀ r, dList [f r] = .ok (.lst (r.map frD)))
include hA hf
theorem solA_F {s1 s2 : Slot} {k : Nat} {r : List Rat} {t : Rat} {acc : List (List Rat)} {post : En} {g : Rng} (hM : n ≤ 100) (hr : r.length ≤ 100) (ha : acc.length < 100) :
    solA (.sh A :: s1 :: s2 :: .ow (acc.map vecD) :: .sh (.int k) :: .sh (f r) :: .sh (frD t) :: post) g = .ok (.nx (.sh A :: s1 :: s2 :: .ow ((acc ++ [lineR n k r t]).map vecD) :: .sh (.int k) :: .sh (f r) :: .sh (frD t) :: post) g) := by
  have u := unit_ok (n := n) (pos := k) (by omega)
  have d1 := hf r
  have a1 : dAdd (.lst (r.map frD)) (.lst [frD t]) = .ok (.lst (r.map frD ++ [frD t])) := dAdd_ll (by simp; omega)
  have a2 : dAdd (.lst (r.map frD ++ [frD t])) (vecD (unitR n k)) = .ok (.lst (r.map frD ++ [frD t] ++ (unitR n k).map frD)) := dAdd_ll (by unfold unitR; simp; omega)
  have u' : m_unit_row [.int n, .int k] = .ok (vecD (unitR n k)) := u
  unfold solA sApp
  simp [d1, hA, u', a1, show acc.length < 1000 by omega]
  have a2' := a2
  simp only [List.append_assoc, List.singleton_append] at a2'
  rw [a2']
  simp [lineR, vecD, unitR]
theorem solA_lF {s1 s2 : Slot} {post : En} {g : Rng} (hM : n ≤ 100) : ∀ (l : List (List Rat × Rat)) (k : Nat) (acc : List (List Rat)) (s4 s5 s6 : Slot), (∀ p, p ∈ l → p.1.length ≤ 100) → acc.length + l.length ≤ 100 →
    forL solTfA solA (pairsF f k l) (.sh A :: s1 :: s2 :: .ow (acc.map vecD) :: s4 :: s5 :: s6 :: post) g = .ok (.nx (.sh A :: s1 :: s2 :: .ow ((acc ++ linesF n k l).map vecD) :: fin4 k l s4 :: fin5 f l s5 :: fin6 l s6 :: post) g)
  | [], k, acc, s4, s5, s6, _, _ => by simp [pairsF, linesF, forL, fin4, fin5, fin6]
  | p :: l, k, acc, s4, s5, s6, hp, hl => by
    rw [List.length_cons] at hl
    have ih := solA_lF (s1 := s1) (s2 := s2) (post := post) (g := g) hM l (k + 1) (acc ++ [lineR n k p.1 p.2]) (.sh (.int k)) (.sh (f p.1)) (.sh (frD p.2)) (fun q hq => hp q (List.mem_cons_of_mem _ hq)) (by rw [List.length_append, List.length_singleton]; omega)
    have tf : solTfA (.tup [.int (k : Nat), .tup [f p.1, frD p.2]]) (.sh A :: s1 :: s2 :: .ow (acc.map vecD) :: s4 :: s5 :: s6 :: post) = some (.sh A :: s1 :: s2 :: .ow (acc.map vecD) :: .sh (.int (k : Nat)) :: .sh (f p.1) :: .sh (frD p.2) :: post) := rfl
    rw [pairsF, forL]
    simp only [tf]
    rw [solA_F hA hf hM (hp p List.mem_cons_self) (by omega)]
    simp only [bind_ok]
    rw [ih, linesF, List.append_assoc, List.singleton_append, fin4, fin5, fin6]
end
theorem seqX {a b : MS} {e e1 : En} {g : Rng} (h : a e g = .ok (.nx e1 g)) : sSeq a b e g = b e1 g := by
  rw [sSeq_, h, bind_ok, seqK_nx]
theorem first_F {A Bt R0 : D} {f : List Rat → D} {M : List (List Rat)} {ts : List Rat} {w : Nat} (m1 : 1 ≤ M.length) (hm : M.length ≤ 100) (hw : ∀ r, r ∈ M → r.length ≤ 100) (tl : ts.length = M.length) (hA : dLen [A] = .ok (.int (M.length : Nat))) (hf : ∀ r, dList [f r] = .ok (.lst (r.map frD)))
    (hs : m_check_shape [A, Bt] = .ok .non) (hi : dIx A (.int 0) = .ok R0) (hl : dLen [R0] = .ok (.int (w : Nat))) (hz : dEnumZip [A, Bt] = .ok (pairsF f 0 (M.zip ts))) :
    b_solve_linear [.sh A, .sh Bt, .un, .un, .un, .un, .un, .un, .un, .un, .un, .un, .un, .un, .un] g0 = restS [.sh A, .sh Bt, .sh (.int w), .ow ((linesF M.length 0 (M.zip ts)).map vecD), fin4 0 (M.zip ts) .un, fin5 f (M.zip ts) .un, fin6 (M.zip ts) .un, .un, .un, .un, .un, .un, .un, .un, .un] g0 := by
  have hb' : b_solve_linear = sSeq (sNoRt (sDrop (eCall m_check_shape (aCons (eVar 0) (aCons (eVar 1) aNil))))) (sSeq (sNoRt (sAsg 2 (eIf (eTest (eOp dGt (eCall dLen (aCons (eVar 0) aNil)) (eC (.int 0)))) (eCall dLen (aCons (eOp dIx (eVar 0) (eC (.int 0))) aNil)) (eC (.int 0))))) (sSeq (sNoRt (sAsgF 3 (aLst aNil))) (sSeq (sNoRt (sFor (iEnumZipD (aCons (eVar 0) (aCons (eVar 1) aNil))) solTfA solA)) restS))) := rfl
  have st0 : sDrop (eCall m_check_shape (aCons (eVar 0) (aCons (eVar 1) aNil))) [.sh A, .sh Bt, .un, .un, .un, .un, .un, .un, .un, .un, .un, .un, .un, .un, .un] g0 = .ok (.nx [.sh A, .sh Bt, .un, .un, .un, .un, .un, .un, .un, .un, .un, .un, .un, .un, .un] g0) := by simp [hs]
  have st1 : sAsg 2 (eIf (eTest (eOp dGt (eCall dLen (aCons (eVar 0) aNil)) (eC (.int 0)))) (eCall dLen (aCons (eOp dIx (eVar 0) (eC (.int 0))) aNil)) (eC (.int 0))) [.sh A, .sh Bt, .un, .un, .un, .un, .un, .un, .un, .un, .un, .un, .un, .un, .un] g0 = .ok (.nx [.sh A, .sh Bt, .sh (.int w), .un, .un, .un, .un, .un, .un, .un, .un, .un, .un, .un, .un] g0) := by
    simp [hA, hi, hl, show 0 < M.length by omega]
  have st2 : sAsgF 3 (aLst aNil) [.sh A, .sh Bt, .sh (.int w), .un, .un, .un, .un, .un, .un, .un, .un, .un, .un, .un, .un] g0 = .ok (.nx [.sh A, .sh Bt, .sh (.int w), .ow [], .un, .un, .un, .un, .un, .un, .un, .un, .un, .un, .un] g0) := by simp
  have la := solA_lF hA hf (s1 := .sh Bt) (s2 := .sh (.int w)) (post := [.un, .un, .un, .un, .un, .un, .un, .un]) (g := g0) hm (M.zip ts) 0 [] .un .un .un (fun p hp => hw _ (List.of_mem_zip hp).1) (by rw [List.length_zip]; simp; omega)
  rw [List.map_nil, List.nil_append] at la
  have st3 : sFor (iEnumZipD (aCons (eVar 0) (aCons (eVar 1) aNil))) solTfA solA [.sh A, .sh Bt, .sh (.int w), .ow [], .un, .un, .un, .un, .un, .un, .un, .un, .un, .un, .un] g0 = .ok (.nx [.sh A, .sh Bt, .sh (.int w), .ow ((linesF M.length 0 (M.zip ts)).map vecD), fin4 0 (M.zip ts) .un, fin5 f (M.zip ts) .un, fin6 (M.zip ts) .un, .un, .un, .un, .un, .un, .un, .un, .un] g0) := by
    rw [sFor_]
    unfold iEnumZipD
    simp only [aCons_, aNil_, eVar_, List.getElem?_cons_zero, List.getElem?_cons_succ, bind_ok, hz]
    exact la
  rw [hb', seqX (noRt_nx st0), seqX (noRt_nx st1), seqX (noRt_nx st2), seqX (noRt_nx st3)]
theorem pairsF_v : ∀ (l : List (List Rat × Rat)) (k : Nat), pairsF vecD k l = pairsD k l
  | [], k => rfl
  | p :: l, k => by rw [pairsF, pairsD, pairsF_v l]
theorem pairsF_eq (f : List Rat → D) : ∀ (M : List (List Rat)) (ts : List Rat) (k : Nat), (((M.map f).zip (ts.map frD)).mapIdx fun i q => D.tup [.int ((k + i : Nat) : Int), .tup [q.1, q.2]]) = pairsF f k (M.zip ts)
  | [], ts, k => by simp [pairsF]
  | r :: M, [], k => by simp [pairsF]
  | r :: M, t :: ts, k => by
    have ih := pairsF_eq f M ts (k + 1)
    simp only [List.map_cons, List.zip_cons_cons, List.mapIdx_cons, pairsF, Nat.add_zero]
    rw [← ih]
    congr 1
    congr 1
    funext i q
    rw [show k + (i + 1) = k + 1 + i by omega]
def tpD (r : List Rat) : D := .tup (r.map frD)
theorem solve_tup {M : List (List Rat)} {ts : List Rat} {w : Nat} {d : D} (m1 : 1 ≤ M.length) (hm : M.length ≤ 100) (hw : ∀ r, r ∈ M → r.length = w) (hw9 : w ≤ 100) (tl : ts.length = M.length) (h : m_solve_linear [matD M, vecD ts] = .ok d) : m_solve_linear [.lst (M.map tpD), .tup (ts.map frD)] = .ok d := by
  have hw' : ∀ r, r ∈ M → r.length ≤ 100 := fun r hr => by rw [hw r hr]; exact hw9
  obtain ⟨r0, M0, eM⟩ : ∃ r0 M0, M = r0 :: M0 := by
    cases M with
    | nil => simp at m1
    | cons r0 M0 => exact ⟨r0, M0, rfl⟩
  have w0 : r0.length = w := hw r0 (by rw [eM]; exact List.mem_cons_self)
  have s1 := shape_gen2 m1 hm hw (by omega) tl .lst (.inl rfl) .lst (.inl rfl) vecD (.inl fun r => rfl)
  have s2 := shape_gen2 m1 hm hw (by omega) tl .lst (.inl rfl) .tup (.inr rfl) tpD (.inr fun r => rfl)
  have f1 := first_F (A := matD M) (Bt := vecD ts) (R0 := vecD r0) (f := vecD) (M := M) (ts := ts) (w := w) m1 hm hw' tl (by unfold matD; simp) (fun r => rfl) s1 (by rw [eM]; unfold matD; simp [atI, ixN]) (by unfold vecD; simp [w0]) (by rw [pairsF_v]; exact zipMT)
  have f2 := first_F (A := .lst (M.map tpD)) (Bt := .tup (ts.map frD)) (R0 := tpD r0) (f := tpD) (M := M) (ts := ts) (w := w) m1 hm hw' tl (by simp) (fun r => rfl) s2 (by rw [eM]; simp [atI, ixN]) (by unfold tpD; simp [w0]) (by
    show (if (M.map tpD).length ≤ (ts.map frD).length then _ else _) = _
    rw [if_pos (by rw [List.length_map, List.length_map]; omega), ← pairsF_eq]
    congr 1
    congr 1
    funext i q
    rw [Nat.zero_add])
  have P := pat3 (a := .sh (.lst (M.map tpD))) (b := .sh (.tup (ts.map frD))) (c := fin5 tpD (M.zip ts) .un) rfl rfl (fin5_no _ _ rfl)
  have fr := rest_pat P [.sh (matD M), .sh (vecD ts), .sh (.int w), .ow ((linesF M.length 0 (M.zip ts)).map vecD), fin4 0 (M.zip ts) .un, fin5 vecD (M.zip ts) .un, fin6 (M.zip ts) .un, .un, .un, .un, .un, .un, .un, .un, .un] g0
  rw [m_solve_linear, runT, runD, if_pos (by rfl)] at h ⊢
  have h' : onlyT (resD (b_solve_linear [.sh (matD M), .sh (vecD ts), .un, .un, .un, .un, .un, .un, .un, .un, .un, .un, .un, .un, .un] g0)) = .ok d := h
  show onlyT (resD (b_solve_linear [.sh (.lst (M.map tpD)), .sh (.tup (ts.map frD)), .un, .un, .un, .un, .un, .un, .un, .un, .un, .un, .un, .un, .un] g0)) = .ok d
  rw [f1] at h'
  rw [f2]
  have fr' : restS [.sh (.lst (M.map tpD)), .sh (.tup (ts.map frD)), .sh (.int w), .ow ((linesF M.length 0 (M.zip ts)).map vecD), fin4 0 (M.zip ts) .un, fin5 tpD (M.zip ts) .un, fin6 (M.zip ts) .un, .un, .un, .un, .un, .un, .un, .un, .un] g0 = _ := fr
  rw [fr']
  cases hr : restS [.sh (matD M), .sh (vecD ts), .sh (.int w), .ow ((linesF M.length 0 (M.zip ts)).map vecD), fin4 0 (M.zip ts) .un, fin5 vecD (M.zip ts) .un, fin6 (M.zip ts) .un, .un, .un, .un, .un, .un, .un, .un, .un] g0 with
  | ok o => rw [hr] at h'; cases o <;> exact h'
  | err x => rw [hr] at h'; exact h'
  | stuck => rw [hr] at h'; exact h'
theorem eq_red {q : Rat} {E : Nat} (h : RB E q) (hE : E ≤ 8990) : m__law_reduce [.int q.num, .int (q.den : Int)] = .ok (frD q) := by
  have d0 : (q.den : Int) ≠ 0 := by have := q.den_pos; omega
  have := reduce_rat (n := q.num) (d := (q.den : Int)) (a := E) d0 h.1 (by simpa using h.2) hE
  rw [Rat.num_divInt_den] at this
  exact this
theorem eq_self (q : Rat) : m__law_equal 12 [frD q, frD q] = .ok (.bl true) := equal_refl 12 (frD q) (eqOk_mono (n := 2) (by omega) (eqOk_fr (n := 0) q))
def RowZ (q : Rat) : Prop := ∃ z : Int, q = (z : Rat) ∧ 0 ≤ z ∧ z ≤ 3
theorem RowZ.ci {q : Rat} (h : RowZ q) : CI 1 3 q := by
  obtain ⟨z, rfl, z0, z3⟩ := h
  exact ⟨z, by show (z : Rat) * (((1 : Nat) : Int) : Rat) = (z : Rat); have : (((1 : Nat) : Int) : Rat) = 1 := rfl; rw [this, Rat.mul_one], by omega⟩
theorem RowZ.rb {q : Rat} (h : RowZ q) : RB 20 q := by
  obtain ⟨z, rfl, z0, z3⟩ := h
  refine ⟨?_, ?_⟩
  · show z.natAbs < 2 ^ 20
    have : (2 : Nat) ^ 20 = 1048576 := by decide
    omega
  · show 1 < 2 ^ 20
    decide
structure Big (M : List (List Rat)) (ts : List Rat) (b : Nat) : Prop where
  m : M.length = 24
  w : ∀ r, r ∈ M → r.length = 24
  t : ts.length = 24
  e : ∀ r, r ∈ M → ∀ q, q ∈ r → RowZ q
  r : ∀ q, q ∈ ts → RB 20 q ∧ CI 12 b q
theorem Big.g {M : List (List Rat)} {ts : List Rat} {b : Nat} (h : Big M ts b) : LinG M ts :=
  ⟨by have := h.m; omega, by have := h.m; omega, ⟨24, by omega, by omega, h.w⟩, by rw [h.t, h.m], fun r hr q hq => (h.e r hr q hq).rb, fun q hq => (h.r q hq).1.up (by decide)⟩
theorem big_good {M : List (List Rat)} {ts : List Rat} {b : Nat} (h : Big M ts b) (hb : b ≤ 204) : ∃ d, m_solve_linear [matD M, vecD ts] = .ok d ∧ Good M ts 243 d := by
  refine solve_k (kk := 12) (a := 36) (b := b) h.g h.w (by omega) (by decide) (by decide) (fun r hr q hq => ci_abs (j := 12) (h.e r hr q hq).ci (by decide)) (fun q hq => ?_) ?_
  · have := ci_abs (j := 1) (kk := 12) (h.r q hq).2 (by decide)
    rw [Nat.one_mul] at this
    exact this
  · rw [h.m]
    exact Nat.lt_of_le_of_lt (Nat.pow_le_pow_left (show 24 * 36 + b + 12 ≤ 1080 by omega) 24) (by decide +kernel)
theorem no_sol {M : List (List Rat)} {ts : List Rat} {x : List Rat} {i j : Nat} (hi : i < M.length) (hj : j < M.length) (tl : ts.length = M.length) (hr : M[i] = M[j]) (ht : ts[i]'(by omega) ≠ ts[j]'(by omega)) : chkR M ts "solution" x = false := by
  unfold chkR
  rw [if_pos rfl, Bool.and_eq_false_iff]
  refine .inr (decide_eq_false fun e => ht ?_)
  have h1 : (M.map fun r => dotR r x)[i]'(by rw [List.length_map]; omega) = ts[i]'(by omega) := by simp only [e]
  have h2 : (M.map fun r => dotR r x)[j]'(by rw [List.length_map]; omega) = ts[j]'(by omega) := by simp only [e]
  rw [List.getElem_map] at h1 h2
  rw [← h1, ← h2, hr]
theorem Big.twice {M : List (List Rat)} {ts : List Rat} (h : Big M ts 192) : ∃ d x, m_solve_linear [matD (M.take 23 ++ [lAt M 0]), vecD (ts.take 23 ++ [rAt ts 0 + 1])] = .ok d ∧ d = .tup [.str "certificate", vecD x] ∧ (∀ q, q ∈ x → RB 243 q) ∧ chkR (M.take 23 ++ [lAt M 0]) (ts.take 23 ++ [rAt ts 0 + 1]) "certificate" x = true ∧ Big (M.take 23 ++ [lAt M 0]) (ts.take 23 ++ [rAt ts 0 + 1]) 204 := by
  have hm := h.m
  have ht := h.t
  have mem0 : lAt M 0 ∈ M := lAt_mem (by omega)
  have t0 : rAt ts 0 ∈ ts := by rw [rAt_get (by omega)]; exact List.getElem_mem _
  have B : Big (M.take 23 ++ [lAt M 0]) (ts.take 23 ++ [rAt ts 0 + 1]) 204 := by
    refine ⟨by simp; omega, fun r hr => ?_, by simp; omega, fun r hr => ?_, fun q hq => ?_⟩
    · rcases List.mem_append.mp hr with hr | hr
      · exact h.w r (List.mem_of_mem_take hr)
      · rw [List.mem_singleton.mp hr]; exact h.w _ mem0
    · rcases List.mem_append.mp hr with hr | hr
      · exact h.e r (List.mem_of_mem_take hr)
      · rw [List.mem_singleton.mp hr]; exact h.e _ mem0
    · rcases List.mem_append.mp hq with hq | hq
      · obtain ⟨a, b⟩ := h.r q (List.mem_of_mem_take hq)
        exact ⟨a, b.up (k := 1) rfl (by decide)⟩
      · rw [List.mem_singleton.mp hq]
        obtain ⟨a, z, hz, hb⟩ := h.r _ t0
        have e : (rAt ts 0 + 1) * (((12 : Nat) : Int) : Rat) = (((z + 12 : Int)) : Rat) := by
          rw [Rat.add_mul, hz, Rat.one_mul, Rat.intCast_add] <;> rfl
        refine ⟨?_, z + 12, e, by omega⟩
        refine rb_frac (z := 12) (x := z + 12) (by decide) (by decide) e ?_
        have : (2 : Nat) ^ 20 = 1048576 := by decide
        omega
  obtain ⟨d, e, k, x, rfl, hk, hx, hl, hc⟩ := big_good B (by omega)
  refine ⟨_, x, e, ?_⟩
  rcases hk with rfl | rfl
  · have := no_sol (M := M.take 23 ++ [lAt M 0]) (ts := ts.take 23 ++ [rAt ts 0 + 1]) (x := x) (i := 0) (j := 23) (by simp <;> omega) (by simp <;> omega) (by simp <;> omega) (by
      rw [List.getElem_append_left (by rw [List.length_take]; omega), List.getElem_append_right (by rw [List.length_take]; omega), List.getElem_take, List.getElem_singleton, lAt_get (by omega)]) (by
      rw [List.getElem_append_left (by rw [List.length_take]; omega), List.getElem_append_right (by rw [List.length_take]; omega), List.getElem_take, List.getElem_singleton, rAt_get (by omega)]
      grind)
    rw [this] at hc
    cases hc
  · exact ⟨rfl, hx, hc, B⟩
theorem strOk_iff {z : Str} : PyData.strOk z = true ↔ ∀ c, c ∈ TL.tl z → c < 0x110000 := by
  unfold PyData.strOk
  rw [Array.all_eq_true']
  simp [TL.tl]
theorem strOk_app {a b : Str} (h : PyData.strOk a = true) (h' : PyData.strOk b = true) : PyData.strOk (a ++ b) = true := strOk_iff.mpr fun c hc => by
  rw [TL.tl_append] at hc
  rcases List.mem_append.mp hc with hc | hc
  · exact strOk_iff.mp h c hc
  · exact strOk_iff.mp h' c hc
theorem tl_int (i : Int) : TL.tl (Str.ofString (toString i)) = (if i < 0 then [45] else []) ++ TL.numL i.natAbs := by
  cases i with
  | ofNat n =>
    rw [if_neg (by have := Int.natCast_nonneg n; show ¬ ((n : Int) < 0); omega)]
    exact TL.tl_num n
  | negSucc n =>
    rw [if_pos (Int.negSucc_lt_zero n)]
    have e : (toString (Int.negSucc n)) = "-" ++ toString ((n + 1 : Nat) : Int) := rfl
    have k : ∀ s : String, TL.tl (Str.ofString s) = s.toList.map Char.toNat := fun s => PyProof.Rows.signs_ofString s
    rw [e, k, String.toList_append, List.map_append, ← k, ← k, TL.tl_num]
    rfl
theorem strOk_int (n : Int) : PyData.strOk (Str.ofString (toString n)) = true := strOk_iff.mpr fun c hc => by
  rw [tl_int] at hc
  rcases List.mem_append.mp hc with hc | hc
  · split at hc <;> simp at hc; omega
  · have := TL.numL_digits _ c hc
    omega
theorem log_sm {n : Int} {k : Nat} (h : n.natAbs < 2 ^ k) (hk : k ≤ 1920) (h0 : 0 < k) : n.natAbs.log2 < 1920 := by
  by_cases h0 : n.natAbs = 0
  · rw [h0]; decide
  · have := (Nat.log2_lt h0).mpr h
    omega
theorem strOk_join : ∀ ts : List Str, (∀ t, t ∈ ts → PyData.strOk t = true) → PyData.strOk (Str.join ", " ts) = true
  | [], _ => by decide +kernel
  | [x], h => h x List.mem_cons_self
  | x :: y :: r, h => by
    show PyData.strOk (x ++ ", " ++ Str.join ", " (y :: r)) = true
    exact strOk_app (strOk_app (h x List.mem_cons_self) (by decide +kernel)) (strOk_join (y :: r) fun t ht => h t (List.mem_cons_of_mem _ ht))
theorem strOk_from : ∀ (ts : List Str) (k : Nat) (acc : Str), PyData.strOk acc = true → (∀ t, t ∈ ts → PyData.strOk t = true) → PyData.strOk (textFrom k acc ts) = true
  | [], _, _, h, _ => h
  | t :: ts, k, acc, h, h' => by
    show PyData.strOk (textFrom (k + 1) (acc ++ (if k > 0 then ", " else "" : String) ++ t) ts) = true
    refine strOk_from ts _ _ (strOk_app (strOk_app h ?_) (h' t List.mem_cons_self)) fun u hu => h' u (List.mem_cons_of_mem _ hu)
    split <;> decide +kernel
theorem strOk_listT {ts : List Str} (h : ∀ t, t ∈ ts → PyData.strOk t = true) : PyData.strOk (listText ts) = true := strOk_app (strOk_from ts 0 "[" (by decide +kernel) h) (by decide +kernel)
theorem strOk_tupT {ts : List Str} (h : ∀ t, t ∈ ts → PyData.strOk t = true) : PyData.strOk (tupleText ts) = true := by
  unfold tupleText
  refine strOk_app (strOk_app (by decide +kernel) (strOk_join ts h)) ?_
  split <;> decide +kernel
structure ShOk (B n : Nat) (d : PyData) : Prop where
  sh : d.showable = true
  nd : d.hasDict = false
  dp : d.depth ≤ n
  ln : d.shown.length ≤ B
  ok : PyData.strOk d.shown = true
theorem sh_int {i : Int} (h : i.natAbs.log2 < 1920) : ShOk 1921 0 (.int i) := by
  refine ⟨by simp [PyData.showable, h], by simp [PyData.hasDict], by simp [PyData.depth], ?_, ?_⟩
  · simp only [PyData.shown]
    exact int_text_len_1921 h
  · simp only [PyData.shown]
    exact strOk_int i
theorem sh_all {B n : Nat} : ∀ {xs : List PyData}, (∀ x, x ∈ xs → ShOk B n x) → PyData.showableAll xs = true ∧ PyData.hasDictAll xs = false ∧ PyData.depthAll xs ≤ n ∧ ((PyData.shownAll xs).map (·.length)).sum ≤ xs.length * B ∧ (PyData.shownAll xs).length = xs.length ∧ ∀ t, t ∈ PyData.shownAll xs → PyData.strOk t = true
  | [], _ => by simp [PyData.showableAll, PyData.hasDictAll, PyData.depthAll, PyData.shownAll]
  | x :: xs, h => by
    obtain ⟨a1, a2, a3, a4, a5, a6⟩ := sh_all (xs := xs) fun y hy => h y (List.mem_cons_of_mem _ hy)
    have hx := h x List.mem_cons_self
    refine ⟨by simp [PyData.showableAll, hx.sh, a1], by simp [PyData.hasDictAll, hx.nd, a2], ?_, ?_, by simp [PyData.shownAll, a5], ?_⟩
    · rw [PyData.depthAll]
      have := hx.dp
      omega
    · rw [PyData.shownAll, List.map_cons, List.sum_cons, List.length_cons, Nat.add_mul, Nat.one_mul]
      have := hx.ln
      omega
    · intro t ht
      rw [PyData.shownAll] at ht
      rcases List.mem_cons.mp ht with rfl | ht
      · exact hx.ok
      · exact a6 t ht
theorem sh_list {B n : Nat} {xs : List PyData} (h : ∀ x, x ∈ xs → ShOk B n x) : ShOk (xs.length * B + 2 * xs.length + 3) (n + 1) (.list xs) := by
  obtain ⟨a1, a2, a3, a4, a5, a6⟩ := sh_all h
  refine ⟨by simp [PyData.showable, a1], by simp [PyData.hasDict, a2], by rw [PyData.depth]; omega, ?_, ?_⟩
  · rw [PyData.shown]
    have := listText_len_le (PyData.shownAll xs)
    omega
  · rw [PyData.shown]
    exact strOk_listT a6
theorem sh_tup {B n : Nat} {xs : List PyData} (h : ∀ x, x ∈ xs → ShOk B n x) : ShOk (xs.length * B + 2 * xs.length + 3) (n + 1) (.tuple xs) := by
  obtain ⟨a1, a2, a3, a4, a5, a6⟩ := sh_all h
  refine ⟨by simp [PyData.showable, a1], by simp [PyData.hasDict, a2], by rw [PyData.depth]; omega, ?_, ?_⟩
  · rw [PyData.shown]
    have := tupleText_len_le (PyData.shownAll xs)
    omega
  · rw [PyData.shown]
    exact strOk_tupT a6
theorem ShOk.up {B C n m : Nat} {d : PyData} (h : ShOk B n d) (h1 : B ≤ C) (h2 : n ≤ m) : ShOk C m d := ⟨h.sh, h.nd, Nat.le_trans h.dp h2, Nat.le_trans h.ln h1, h.ok⟩
theorem sh_fr {q : Rat} (h : RB 1900 q) : ShOk 4000 1 (frD q).py := by
  have e : (frD q).py = .tuple [.int q.num, .int (q.den : Int)] := by
    show D.py (.tup [.int q.num, .int (q.den : Int)]) = _
    simp [D.py, D.pyL]
  rw [e]
  refine (sh_tup (B := 1921) (n := 0) fun x hx => ?_).up (by simp) (Nat.le_refl _)
  simp only [List.mem_cons, List.not_mem_nil, or_false] at hx
  rcases hx with rfl | rfl
  · exact sh_int (log_sm h.1 (by decide) (by decide))
  · exact sh_int (log_sm (k := 1900) (by simpa using h.2) (by decide) (by decide))
theorem sh_txt {k : Str} (hk : k = "solution" ∨ k = "certificate") : ShOk 100 0 (.str k) := by
  rcases hk with rfl | rfl <;> exact ⟨by simp [PyData.showable], by simp [PyData.hasDict], by simp [PyData.depth], by decide +kernel, by decide +kernel⟩
theorem eqOk_matD {M : List (List Rat)} (hm : M.length ≤ 1000) (hw : ∀ r, r ∈ M → r.length ≤ 1000) : eqOk 5 (matD M) := by
  unfold matD
  rw [eqOk]
  refine ⟨by rw [List.length_map]; exact hm, fun d hd => ?_⟩
  obtain ⟨r, hr, rfl⟩ := List.mem_map.mp hd
  exact eqOk_frs (n := 1) (hw r hr)
theorem repr_ans {k : Str} {x : List Rat} (hk : k = "solution" ∨ k = "certificate") (hl : x.length ≤ 24) (hx : ∀ q, q ∈ x → RB 1900 q) : ∃ z : Str, dRepr (.tup [.str k, vecD x]) = .ok (.str z) ∧ PyData.strOk z = true := by
  have e : (D.tup [.str k, vecD x]).py = .tuple [.str k, (vecD x).py] := by simp [D.py, D.pyL]
  have ev : (vecD x).py = .list (x.map fun q => (frD q).py) := by
    show D.py (.lst (x.map frD)) = _
    have : ∀ l : List D, D.pyL l = l.map D.py := fun l => by induction l with
      | nil => rw [D.pyL]; rfl
      | cons x l ih => rw [D.pyL, ih]; rfl
    rw [D.py, this, List.map_map]; rfl
  have S : ShOk 300000 3 (D.tup [.str k, vecD x]).py := by
    rw [e]
    refine (sh_tup (B := 100000) (n := 2) fun y hy => ?_).up (by simp) (Nat.le_refl _)
    simp only [List.mem_cons, List.not_mem_nil, or_false] at hy
    rcases hy with rfl | rfl
    · exact (sh_txt hk).up (by decide) (by decide)
    · rw [ev]
      refine (sh_list (B := 4000) (n := 1) fun y hy => ?_).up (by rw [List.length_map]; omega) (Nat.le_refl _)
      obtain ⟨q, hq, rfl⟩ := List.mem_map.mp hy
      exact sh_fr (hx q hq)
  have ok : PyData.strOk k = true := by rcases hk with rfl | rfl <;> decide +kernel
  have eo : eqOk 7 (.tup [.str k, vecD x]) := by
    rw [eqOk]
    refine ⟨by simp, fun y hy => ?_⟩
    simp only [List.mem_cons, List.not_mem_nil, or_false] at hy
    rcases hy with rfl | rfl
    · simp [eqOk, ok]
    · exact eqOk_frs (n := 3) (by omega)
  refine ⟨(D.tup [.str k, vecD x]).py.shown, ?_, S.ok⟩
  unfold dRepr
  rw [if_pos ⟨eqOk_shaped eo (by decide), S.sh, S.nd, Nat.le_trans S.dp (by decide), Nat.le_trans S.ln (by decide)⟩]
@[reducible] def lstM (P : List D) : MO := .lst (P.map .d)
theorem liftT_eq {mk : List Bool} {f : MA} {e : MEn} {Z : MSt} {ds : List D} {g : Rng} {vs : List MV} {ws : List MO} (h : f (lowE e) Z.g = .ok (ds, g)) (hv : putV mk ds Z.st.length = some (vs, ws)) : mLiftT mk false f e Z = .ok (.t vs) { Z with st := Z.st ++ ws, g := g } := by
  unfold mLiftT
  rw [h]
  simp only [hv]
theorem callT_eq {m : List D → Res D} {fs : MA} {e : En} {g : Rng} {l ds : List D} (h : fs e g = .ok (l, g)) (hm : m l = .ok (.tup ds)) : aCallT m fs e g = .ok (ds, g) := by
  unfold aCallT
  rw [h, bind_ok]
  simp only [hm]
abbrev E19 (s2 s3 s4 s5 s6 s7 s8 s9 s10 : MSl) : MEn := [.un, .rng, s2, s3, s4, s5, s6, s7, s8, s9, s10, .un, .un, .un, .un]
theorem al13 {M : List (List Rat)} {f : List D → Res D} {ψ : List Rat → D} (hf : ∀ r, f [vecD r] = .ok (ψ r)) (hm : M.length ≤ 1000) {a0 a1 a2 a4 a5 a6 a7 a8 a9 a10 : Slot} {g : Rng} : aLc [13] (iSeqD (eVar 3)) (gNm 13) mTrue (eCall f (aCons (eVar 13) aNil)) [a0, a1, a2, .sh (matD M), a4, a5, a6, a7, a8, a9, a10, .un, .un, .un, .un] g = .ok (M.map ψ, g) := by
  have it : dItems (matD M) = .ok (M.map vecD) := rfl
  rw [aLc_]
  simp only [iSeqD_, eVar_, List.getElem?_cons_succ, List.getElem?_cons_zero, bind_ok, it]
  rw [if_pos ⟨rfl, by rw [List.length_map]; exact hm⟩, lcL_mapT (φ := vecD) (ψ := ψ) fun r hr => ⟨_, rfl, by simp [wipeE, hf]⟩]
  rfl
theorem al14 {k : Str} {x : List Rat} {E : Nat} (hE : E ≤ 8990) (hx : ∀ q, q ∈ x → RB E q) (hl : x.length ≤ 1000) {a0 a1 a2 a3 a4 a5 a6 a8 a9 a10 : Slot} {g : Rng} : aLc [14] (iSeqD (eOp dIx (eVar 7) (eC (.int 1)))) (gNm 14) mTrue (eCall (m__law_equal 12) (aCons (eVar 14) (aCons (eCall m__law_reduce (aCons (eOp dIx (eVar 14) (eC (.int 0))) (aCons (eOp dIx (eVar 14) (eC (.int 1))) aNil))) aNil))) [a0, a1, a2, a3, a4, a5, a6, .sh (.tup [.str k, vecD x]), a8, a9, a10, .un, .un, .un, .un] g = .ok (x.map fun _ => .bl true, g) := by
  have ix : dIx (.tup [.str k, vecD x]) (.int 1) = .ok (vecD x) := rfl
  have it : dItems (vecD x) = .ok (x.map frD) := rfl
  rw [aLc_]
  simp only [iSeqD_, eOp_, eC_, eVar_, List.getElem?_cons_succ, List.getElem?_cons_zero, bind_ok, ix, it, pureG_ok']
  rw [if_pos ⟨rfl, by rw [List.length_map]; exact hl⟩, lcL_mapT (φ := frD) (ψ := fun _ => .bl true) fun q hq => ⟨_, rfl, by
    have i0 : dIx (frD q) (.int 0) = .ok (.int q.num) := rfl
    have i1 : dIx (frD q) (.int 1) = .ok (.int (q.den : Int)) := rfl
    have r := eq_red (hx q hq) hE
    have e := eq_self q
    simp [wipeE, i0, i1, r, e]⟩]
  rfl
@[reducible] def body19 : MMS := (msSeq (msAsg 9 (mLift false (eOfL (aLst (aCons (eOfL (aLc [13] (iSeqD (eVar 3)) (gNm 13) mTrue (eCall dList (aCons (eVar 13) aNil)))) (aCons (eCall dList (aCons (eVar 4) aNil)) aNil))))))
    (msSeq (msAsg 7 (mLiftT [false, true] false (aCallT m_solve_linear (aCons (eOp dIx (eVar 9) (eC (.int 0))) (aCons (eOp dIx (eVar 9) (eC (.int 1))) aNil)))))
    (msSeq (msIf (tBor false (tOrM (eTest (eOp dNe (eVar 9) (eOfL (aLst (aCons (eVar 3) (aCons (eVar 4) aNil)))))) (tOrM (tNotM (eTest (eIsi .tTup (eVar 7)))) (tOrM (eTest (eOp dNe (eCall dLen (aCons (eVar 7) aNil)) (eC (.int 2)))) (tNotM (eTest (eIsi .tList (eOp dIx (eVar 7) (eC (.int 1)))))))))) (msRet (mLift false (eC (.bl false)))) msNx)
    (msSeq (msIf (tBor false (tOrM (eTest (eOp dNotInS (eOp dIx (eVar 7) (eC (.int 0))) (eTup (aCons (eC (.str "solution")) (aCons (eC (.str "certificate")) aNil))))) (tNotM (eTest (eCall m__law_check_solution (aCons (eVar 3) (aCons (eVar 4) (aCons (eVar 7) aNil)))))))) (msRet (mLift false (eC (.bl false)))) msNx)
    (msSeq (msIf (tBor false (tNotM (eTest (eCall dAll (aCons (eOfL (aLc [14] (iSeqD (eOp dIx (eVar 7) (eC (.int 1)))) (gNm 14) mTrue (eCall (m__law_equal 12) (aCons (eVar 14) (aCons (eCall m__law_reduce (aCons (eOp dIx (eVar 14) (eC (.int 0))) (aCons (eOp dIx (eVar 14) (eC (.int 1))) aNil))) aNil))))) aNil))))) (msRet (mLift false (eC (.bl false)))) msNx)
    (msSeq (msAsg 10 (mBor false (eUn dRepr (eVar 7))))
    (msSeq (msDrop (mApp (mIx (mVar 7) (mLift false (eC (.int 1)))) (mLift false (eC (.int 0)))))
    (msIf (tLift false (eTest (eOp dNe (eUn dRepr (eCallK 0 2 (fun us ws => m_solve_linear (picks .non us ws [] [] [.k 1, .k 0])) aNil (aCons (eCall dTupOf (aCons (eVar 4) aNil)) (aCons (eOfL (aLc [13] (iSeqD (eVar 3)) (gNm 13) mTrue (eCall dTupOf (aCons (eVar 13) aNil)))) aNil)))) (eVar 10)))) (msRet (mLift false (eC (.bl false)))) msNx))))))))
section
variable {M : List (List Rat)} {ts x : List Rat} {k z : Str} {st : List MO} {g : Rng} {s2 s5 s6 s7 s8 s9 s10 : MSl}
theorem body19_ok (hL : Lin M ts) (hsol : m_solve_linear [matD M, vecD ts] = .ok (.tup [.str k, vecD x])) (hk : k = "solution" ∨ k = "certificate") (hx : ∀ q, q ∈ x → RB 131 q) (hl : x.length ≤ 24) (hc : chkR M ts k x = true) :
    ∃ s7' s9' s10' st', body19 (E19 s2 (.v (.d (matD M))) (.v (.d (vecD ts))) s5 s6 s7 s8 s9 s10) ⟨g, st⟩ = .nx (E19 s2 (.v (.d (matD M))) (.v (.d (vecD ts))) s5 s6 s7' s8 s9' s10') ⟨g, st'⟩ := by
  have m5 := hL.m5
  obtain ⟨w, w1, w5, hw⟩ := hL.w
  have tl := hL.t
  have hchk : m__law_check_solution [matD M, vecD ts, .tup [.str k, vecD x]] = .ok (.bl true) := by
    rw [lcheck_ok hL.g hk (fun q hq => (hx q hq).up (by decide)) (by omega), hc]
  obtain ⟨z, hz, zo⟩ := repr_ans hk hl fun q hq => (hx q hq).up (by decide)
  have htup := solve_tup hL.m1 (by omega) hw (by omega) tl hsol
  let A : D := .lst [matD M, vecD ts]
  let n := st.length
  let st1 := st ++ [lstM (x.map frD)]
  let T : MV := .t [.d (.str k), .o n]
  have a9 : mLift false (eOfL (aLst (aCons (eOfL (aLc [13] (iSeqD (eVar 3)) (gNm 13) mTrue (eCall dList (aCons (eVar 13) aNil)))) (aCons (eCall dList (aCons (eVar 4) aNil)) aNil)))) (E19 s2 (.v (.d (matD M))) (.v (.d (vecD ts))) s5 s6 s7 s8 s9 s10) ⟨g, st⟩ = .ok (.d A) ⟨g, st⟩ := by
    have al := al13 (M := M) (f := dList) (ψ := vecD) (fun r => rfl) (by omega) (a0 := .un) (a1 := .rng) (a2 := lowS s2) (a4 := .sh (vecD ts)) (a5 := lowS s5) (a6 := lowS s6) (a7 := lowS s7) (a8 := lowS s8) (a9 := lowS s9) (a10 := lowS s10) (g := g)
    have dl : dList [vecD ts] = .ok (vecD ts) := rfl
    rw [mLift_]
    simp only [E19, lowE_cons, lowE_nil, lowS_d, lowS_un, lowS_rng, eOfL_, aLst_, aCons_, aNil_, eCall_, al, eVar_, List.getElem?_cons_succ, List.getElem?_cons_zero, bind_ok, dl, pureG_ok']
    rfl
  have x0 : dIx A (.int 0) = .ok (matD M) := rfl
  have x1 : dIx A (.int 1) = .ok (vecD ts) := rfl
  have a7 : mLiftT [false, true] false (aCallT m_solve_linear (aCons (eOp dIx (eVar 9) (eC (.int 0))) (aCons (eOp dIx (eVar 9) (eC (.int 1))) aNil))) (E19 s2 (.v (.d (matD M))) (.v (.d (vecD ts))) s5 s6 s7 s8 (.v (.d A)) s10) ⟨g, st⟩ = .ok T ⟨g, st1⟩ := by
    refine liftT_eq (callT_eq (l := [matD M, vecD ts]) ?_ hsol) rfl
    simp only [E19, lowE_cons, lowE_nil, lowS_d, aCons_, aNil_, eOp_, eC_, eVar_, List.getElem?_cons_succ, List.getElem?_cons_zero, bind_ok, x0, x1, pureG_ok']
  have g0' : st1[n]? = some (lstM (x.map frD)) := by
    show (st ++ _)[st.length]? = _
    rw [List.getElem?_append_right (Nat.le_refl _), Nat.sub_self]; rfl
  have sn : snapV 8 st1 T = some (.tup [.str k, vecD x]) := by
    have q0 : snapV 6 st1 (.o n) = some (.lst (x.map frD)) := snap_lst (n := 3) g0'
    show snapV 8 st1 (.t [.d (.str k), .o n]) = _
    rw [snapV, snapL, snap_d]
    simp only
    rw [snapL, q0]
    simp only
    rw [snapL]
    rfl
  have q7 := lowBS_v sn
  have ko : PyData.strOk k = true := by rcases hk with rfl | rfl <;> decide +kernel
  have neA : dNe A A = .ok (.bl false) := by
    refine dNe_refl (n := 8) ?_ (by decide)
    show eqOk 8 (.lst [matD M, vecD ts])
    rw [eqOk]
    refine ⟨by simp, fun y hy => ?_⟩
    simp only [List.mem_cons, List.not_mem_nil, or_false] at hy
    rcases hy with rfl | rfl
    · exact eqOk_mono (by omega) (eqOk_matD (by omega) fun r hr => by rw [hw r hr]; omega)
    · exact eqOk_frs (n := 4) (by omega)
  have i1 : dIsinst .tTup [.tup [.str k, vecD x]] = .ok (.bl true) := rfl
  have i2 : dIsinst .tList [vecD x] = .ok (.bl true) := rfl
  have l2 : dLen [.tup [.str k, vecD x]] = .ok (.int 2) := rfl
  have t0 : dIx (.tup [.str k, vecD x]) (.int 0) = .ok (.str k) := rfl
  have t1 : dIx (.tup [.str k, vecD x]) (.int 1) = .ok (vecD x) := rfl
  have b1 : tBor false (tOrM (eTest (eOp dNe (eVar 9) (eOfL (aLst (aCons (eVar 3) (aCons (eVar 4) aNil)))))) (tOrM (tNotM (eTest (eIsi .tTup (eVar 7)))) (tOrM (eTest (eOp dNe (eCall dLen (aCons (eVar 7) aNil)) (eC (.int 2)))) (tNotM (eTest (eIsi .tList (eOp dIx (eVar 7) (eC (.int 1))))))))) (E19 s2 (.v (.d (matD M))) (.v (.d (vecD ts))) s5 s6 (.v T) s8 (.v (.d A)) s10) ⟨g, st1⟩ = .ok false ⟨g, st1⟩ := by
    have neA' : dNe A (.lst [matD M, vecD ts]) = .ok (.bl false) := neA
    rw [tBor_]
    simp only [E19, lowB_cons, lowB_nil, lowBS_d, q7, tOrM_, tNotM_, eTest_, eIsi_, eOp_, eC_, eOfL_, aLst_, eCall_, aCons_, aNil_, eVar_, List.getElem?_cons_succ, List.getElem?_cons_zero, bind_ok, pureG_ok', l2, i1, t1, i2]
    simp [neA', l2, i1, t1, i2]
  have nin : dNotInS (.str k) (.tup [.str "solution", .str "certificate"]) = .ok (.bl false) := by
    rcases hk with rfl | rfl <;> kernel_rfl
  have b2 : tBor false (tOrM (eTest (eOp dNotInS (eOp dIx (eVar 7) (eC (.int 0))) (eTup (aCons (eC (.str "solution")) (aCons (eC (.str "certificate")) aNil))))) (tNotM (eTest (eCall m__law_check_solution (aCons (eVar 3) (aCons (eVar 4) (aCons (eVar 7) aNil))))))) (E19 s2 (.v (.d (matD M))) (.v (.d (vecD ts))) s5 s6 (.v T) s8 (.v (.d A)) s10) ⟨g, st1⟩ = .ok false ⟨g, st1⟩ := by
    rw [tBor_]
    simp only [E19, lowB_cons, lowB_nil, lowBS_d, q7, tOrM_, tNotM_, eTest_, eOp_, eC_, eTup_, eCall_, aCons_, aNil_, eVar_, List.getElem?_cons_succ, List.getElem?_cons_zero, bind_ok, pureG_ok', t0]
    simp [nin, hchk]
  have b3 : tBor false (tNotM (eTest (eCall dAll (aCons (eOfL (aLc [14] (iSeqD (eOp dIx (eVar 7) (eC (.int 1)))) (gNm 14) mTrue (eCall (m__law_equal 12) (aCons (eVar 14) (aCons (eCall m__law_reduce (aCons (eOp dIx (eVar 14) (eC (.int 0))) (aCons (eOp dIx (eVar 14) (eC (.int 1))) aNil))) aNil))))) aNil)))) (E19 s2 (.v (.d (matD M))) (.v (.d (vecD ts))) s5 s6 (.v T) s8 (.v (.d A)) s10) ⟨g, st1⟩ = .ok false ⟨g, st1⟩ := by
    have al := al14 (k := k) (x := x) (E := 131) (by decide) hx (by omega) (a0 := .un) (a1 := .rng) (a2 := lowBS st1 s2) (a3 := .sh (matD M)) (a4 := .sh (vecD ts)) (a5 := lowBS st1 s5) (a6 := lowBS st1 s6) (a8 := lowBS st1 s8) (a9 := .sh A) (a10 := lowBS st1 s10) (g := g)
    have da : dAll [.lst (x.map fun _ => D.bl true)] = .ok (.bl true) := by
      have : ∀ l : List Rat, bools (l.map fun _ => D.bl true) = some (l.map fun _ => true) := fun l => by
        induction l with
        | nil => simp
        | cons a l ih => simp [ih]
      rw [dAll_, this]
      simp
    rw [tBor_]
    simp only [E19, lowB_cons, lowB_nil, lowBS_d, lowBS_un, lowBS_rng, q7, tNotM_, eTest_, eCall_, eOfL_, aCons_, aNil_, al, bind_ok, da, pureG_ok']
    simp
  have a10 : mBor false (eUn dRepr (eVar 7)) (E19 s2 (.v (.d (matD M))) (.v (.d (vecD ts))) s5 s6 (.v T) s8 (.v (.d A)) s10) ⟨g, st1⟩ = .ok (.d (.str z)) ⟨g, st1⟩ := by
    rw [mBor_]
    simp only [E19, lowB_cons, lowB_nil, lowBS_d, q7, eUn_, eVar_, List.getElem?_cons_succ, List.getElem?_cons_zero, bind_ok, hz, pureG_ok', borM_ok]
    rfl
  have xi : mIx (mVar 7) (mLift false (eC (.int 1))) (E19 s2 (.v (.d (matD M))) (.v (.d (vecD ts))) s5 s6 (.v T) s8 (.v (.d A)) (.v (.d (.str z)))) ⟨g, st1⟩ = .ok (.o n) ⟨g, st1⟩ := by
    unfold mIx
    simp only [E19, mVar_, List.getElem?_cons_zero, List.getElem?_cons_succ, bindM_ok, mLift_, eC_, liftM_ok]
    rfl
  let st2 := st1.set n (.lst ((x.map frD).map .d ++ [.d (.int 0)]))
  have ap : mApp (mIx (mVar 7) (mLift false (eC (.int 1)))) (mLift false (eC (.int 0))) (E19 s2 (.v (.d (matD M))) (.v (.d (vecD ts))) s5 s6 (.v T) s8 (.v (.d A)) (.v (.d (.str z)))) ⟨g, st1⟩ = .ok (.d .non) ⟨g, st2⟩ := by
    rw [mApp_, xi, bindM_ok]
    simp only [g0', mLift_, eC_, liftM_ok, bindM_ok]
    rw [if_pos (by simp; omega)]
  have ne := dNe_ss zo zo
  have b4 : tLift false (eTest (eOp dNe (eUn dRepr (eCallK 0 2 (fun us ws => m_solve_linear (picks .non us ws [] [] [.k 1, .k 0])) aNil (aCons (eCall dTupOf (aCons (eVar 4) aNil)) (aCons (eOfL (aLc [13] (iSeqD (eVar 3)) (gNm 13) mTrue (eCall dTupOf (aCons (eVar 13) aNil)))) aNil)))) (eVar 10))) (E19 s2 (.v (.d (matD M))) (.v (.d (vecD ts))) s5 s6 (.v T) s8 (.v (.d A)) (.v (.d (.str z)))) ⟨g, st2⟩ = .ok false ⟨g, st2⟩ := by
    have al := al13 (M := M) (f := dTupOf) (ψ := tpD) (fun r => rfl) (by omega) (a0 := .un) (a1 := .rng) (a2 := lowS s2) (a4 := .sh (vecD ts)) (a5 := lowS s5) (a6 := lowS s6) (a7 := .un) (a8 := lowS s8) (a9 := .sh A) (a10 := .sh (.str z)) (g := g)
    have dt : dTupOf [vecD ts] = .ok (.tup (ts.map frD)) := rfl
    have lT : lowS (.v T) = .un := rfl
    have ck : eCallK 0 2 (fun us ws => m_solve_linear (picks .non us ws [] [] [.k 1, .k 0])) aNil (aCons (eCall dTupOf (aCons (eVar 4) aNil)) (aCons (eOfL (aLc [13] (iSeqD (eVar 3)) (gNm 13) mTrue (eCall dTupOf (aCons (eVar 13) aNil)))) aNil)) (lowE (E19 s2 (.v (.d (matD M))) (.v (.d (vecD ts))) s5 s6 (.v T) s8 (.v (.d A)) (.v (.d (.str z))))) g = .ok (.tup [.str k, vecD x], g) := by
      simp only [E19, lowE_cons, lowE_nil, lowS_d, lowS_un, lowS_rng, lT, eCallK_, eCall_, eOfL_, aCons_, aNil_, eVar_, List.getElem?_cons_succ, List.getElem?_cons_zero, bind_ok, al, dt, pureG_ok']
      rw [if_pos ⟨rfl, rfl⟩]
      show pureG (m_solve_linear [.lst (M.map tpD), .tup (ts.map frD)]) g = _
      rw [htup, pureG_ok']
    have v10 : eVar 10 (lowE (E19 s2 (.v (.d (matD M))) (.v (.d (vecD ts))) s5 s6 (.v T) s8 (.v (.d A)) (.v (.d (.str z))))) g = .ok (.str z, g) := rfl
    rw [tLift_, eTest_, eOp_, eUn_, ck]
    simp only [bind_ok, hz, pureG_ok', v10, ne]
    simp
  refine ⟨.v T, .v (.d A), .v (.d (.str z)), st2, ?_⟩
  unfold body19
  rw [msSeq_, msAsg_, a9, xS_ok, seqM_nx]
  rw [show (E19 s2 (.v (.d (matD M))) (.v (.d (vecD ts))) s5 s6 s7 s8 s9 s10).set 9 (.v (.d A)) = E19 s2 (.v (.d (matD M))) (.v (.d (vecD ts))) s5 s6 s7 s8 (.v (.d A)) s10 from rfl, msSeq_, msAsg_, a7, xS_ok, seqM_nx]
  rw [show (E19 s2 (.v (.d (matD M))) (.v (.d (vecD ts))) s5 s6 s7 s8 (.v (.d A)) s10).set 7 (.v T) = E19 s2 (.v (.d (matD M))) (.v (.d (vecD ts))) s5 s6 (.v T) s8 (.v (.d A)) s10 from rfl]
  rw [msSeq_, msIf_, b1, xS_ok, if_neg (by decide), msNx_, seqM_nx, msSeq_, msIf_, b2, xS_ok, if_neg (by decide), msNx_, seqM_nx, msSeq_, msIf_, b3, xS_ok, if_neg (by decide), msNx_, seqM_nx, msSeq_, msAsg_, a10, xS_ok, seqM_nx]
  rw [show (E19 s2 (.v (.d (matD M))) (.v (.d (vecD ts))) s5 s6 (.v T) s8 (.v (.d A)) s10).set 10 (.v (.d (.str z))) = E19 s2 (.v (.d (matD M))) (.v (.d (vecD ts))) s5 s6 (.v T) s8 (.v (.d A)) (.v (.d (.str z))) from rfl]
  rw [msSeq_, msDrop_, ap, xS_ok, seqM_nx, msIf_, b4, xS_ok, if_neg (by decide), msNx_]
end
def r24 : List D := (List.range 24).map fun i => .int (i : Nat)
theorem rng24 {e : En} {g : Rng} : iRange (aCons (eC (.int 24)) aNil) e g = .ok (r24, g) := rfl
theorem r24_len : r24.length = 24 := rfl
theorem r24_le : r24.length ≤ 1000 := by rw [r24_len]; decide
theorem r24_int {d : D} (h : d ∈ r24) : ∃ i : Int, d = .int i := by
  obtain ⟨i, _, rfl⟩ := List.mem_map.mp h
  exact ⟨_, rfl⟩
theorem fr_int (z : Int) : frD (z : Rat) = .tup [.int z, .int 1] := rfl
@[reducible] def cell19 : ME := eTup (aCons (eCall dIntOf (aCons (eOp dEq (eVar 12) (eVar 11)) aNil)) (aCons (eC (.int 1)) aNil))
@[reducible] def id19 : ME := eOfL (aLc [12] (iRange (aCons (eC (.int 24)) aNil)) (gNm 12) mTrue cell19)
@[reducible] def rnd19 : ME := eOfL (aLc [12] (iRange (aCons (eC (.int 24)) aNil)) (gNm 12) mTrue (eTup (aCons (eOp dAdd (eC (.int 1)) (eCallG 1 m__law_draw (aCons (eC (.int 3)) aNil))) (aCons (eC (.int 1)) aNil))))
section
variable {a0 a2 a3 a4 a5 a6 a7 a8 a9 a10 : Slot} {g : Rng}
theorem id_row {i : Int} (hg : g.Ok) : WG (id19 [a0, .rng, a2, a3, a4, a5, a6, a7, a8, a9, a10, .sh (.int i), .un, .un, .un] g) (fun x g' => g'.Ok ∧ ∃ u, x = vecD u ∧ u.length = 24 ∧ ∀ q, q ∈ u → RowZ q) := by
  unfold id19
  rw [eOfL_, aLc_, rng24, bind_ok]
  rw [if_pos ⟨rfl, r24_le⟩, WG_bind]
  refine WG_noErr (WG.mono (lcL_q (P := RowZ) hg ?_) fun l g' ⟨h1, us, e1, e2, e3⟩ => ?_)
  · intro d hd
    refine ⟨_, rfl, fun g hg => ?_⟩
    obtain ⟨j, rfl⟩ := r24_int hd
    have eq : dEq (.int j) (.int i) = .ok (.bl (decide (j = i))) := by simp
    have di : dIntOf [.bl (decide (j = i))] = .ok (.int (if (decide (j = i)) = true then 1 else 0)) := by cases (decide (j = i)) <;> rfl
    simp only [wipeE, List.foldl_cons, List.foldl_nil, List.set_cons_succ, List.set_cons_zero, eTup_, eCall_, eOp_, eC_, aCons_, aNil_, eVar_, List.getElem?_cons_succ, List.getElem?_cons_zero, bind_ok, eq, di, pureG_ok', WG_ok]
    rw [if_pos (by simp), WG_ok]
    refine ⟨hg, _, (fr_int _).symm, _, rfl, ?_, ?_⟩ <;> split <;> decide
  · simp only [WG_ok]
    exact ⟨h1, us, by rw [e1]; rfl, by rw [e2]; exact r24_len, e3⟩
theorem rnd_row (hg : g.Ok) : WG (rnd19 [a0, .rng, a2, a3, a4, a5, a6, a7, a8, a9, a10, .un, .un, .un, .un] g) (fun x g' => g'.Ok ∧ ∃ u, x = vecD u ∧ u.length = 24 ∧ ∀ q, q ∈ u → RowZ q) := by
  unfold rnd19
  rw [eOfL_, aLc_, rng24, bind_ok]
  rw [if_pos ⟨rfl, r24_le⟩, WG_bind]
  refine WG_noErr (WG.mono (lcL_q (P := RowZ) hg ?_) fun l g' ⟨h1, us, e1, e2, e3⟩ => ?_)
  · intro d hd
    refine ⟨_, rfl, fun g hg => ?_⟩
    simp only [wipeE, List.foldl_cons, List.foldl_nil, List.set_cons_succ, List.set_cons_zero, List.getElem?_cons_succ, List.getElem?_cons_zero, eTup_, eOp_, eC_, aCons_, aNil_, eCallG_, bind_ok, WG_bind]
    rw [WG_noE]
    refine draw_then hg (by decide) (by decide) fun z g1 h1 z0 z1 => ?_
    have ad : dAdd (.int 1) (.int z) = .ok (.int (1 + z)) := by simp
    simp only [ad, pureG_ok', WG_ok]
    rw [if_pos (by simp), WG_ok]
    exact ⟨h1, _, (fr_int _).symm, _, rfl, by omega, by omega⟩
  · simp only [WG_ok]
    exact ⟨h1, us, by rw [e1]; rfl, by rw [e2]; exact r24_len, e3⟩
theorem id_rows (hg : g.Ok) : WG (aLc [11] (iRange (aCons (eC (.int 24)) aNil)) (gNm 11) mTrue id19 [a0, .rng, a2, a3, a4, a5, a6, a7, a8, a9, a10, .un, .un, .un, .un] g) (fun l g' => g'.Ok ∧ ∃ M : List (List Rat), l = M.map vecD ∧ M.length = 24 ∧ ∀ r, r ∈ M → r.length = 24 ∧ ∀ q, q ∈ r → RowZ q) := by
  rw [aLc_, rng24, bind_ok, if_pos ⟨rfl, r24_le⟩]
  refine WG_noErr (WG.mono (lcL_sm (χ := vecD) (P := fun r => r.length = 24 ∧ ∀ q, q ∈ r → RowZ q) hg ?_) fun l g' ⟨h1, us, e1, e2, e3⟩ => ⟨h1, us, e1, by rw [e2]; exact r24_len, e3⟩)
  intro d hd
  refine ⟨_, rfl, fun g hg => ?_⟩
  obtain ⟨i, rfl⟩ := r24_int hd
  exact id_row hg
theorem small_row {M : List (List Rat)} (hm : M.length = 24) (hg : g.Ok) : WG (aLc [13] (iSeqD (eVar 3)) (gNm 13) mTrue (eCallG 1 m__law_small aNil) [a0, .rng, a2, .sh (matD M), a4, a5, a6, a7, a8, a9, a10, .un, .un, .un, .un] g) (fun l g' => g'.Ok ∧ ∃ us : List Rat, l = us.map frD ∧ us.length = 24 ∧ ∀ q, q ∈ us → RA q) := by
  have it : dItems (matD M) = .ok (M.map vecD) := rfl
  rw [aLc_]
  simp only [iSeqD_, eVar_, List.getElem?_cons_succ, List.getElem?_cons_zero, bind_ok, it]
  rw [if_pos ⟨rfl, by rw [List.length_map]; omega⟩]
  refine WG_noErr (WG.mono (lcL_q (P := RA) hg ?_) fun l g' ⟨h1, us, e1, e2, e3⟩ => ⟨h1, us, e1, by rw [e2, List.length_map]; exact hm, e3⟩)
  intro d hd
  refine ⟨_, rfl, fun g hg => ?_⟩
  simp only [wipeE, List.foldl_cons, List.foldl_nil, List.set_cons_succ, List.set_cons_zero, List.getElem?_cons_succ, List.getElem?_cons_zero, eCallG_, aNil_, bind_ok, WG_bind]
  rw [WG_noE]
  exact smallQ_then hg fun q g' h hq => ⟨h, q, rfl, hq⟩
theorem lift3 {s2 s3 s4 s5 s6 s7 s8 s9 s10 : MSl} {st : List MO} (hg : g.Ok) :
    ∃ (M : List (List Rat)) (g' : Rng) (t2 t4 t5 t6 t7 t8 t9 t10 : MSl), msLiftS [3] (sSeq (sAsgF 3 (aLc [11] (iRange (aCons (eC (.int 24)) aNil)) (gNm 11) mTrue id19)) (sSetI 3 rnd19 (eCallG 1 m__law_draw (aCons (eC (.int 24)) aNil)))) (E19 s2 s3 s4 s5 s6 s7 s8 s9 s10) ⟨g, st⟩ = .nx (E19 t2 (.v (.d (matD M))) t4 t5 t6 t7 t8 t9 t10) ⟨g', st⟩ ∧ g'.Ok ∧ M.length = 24 ∧ ∀ r, r ∈ M → r.length = 24 ∧ ∀ q, q ∈ r → RowZ q := by
  obtain ⟨l, g1, el, h1, M, rfl, M1, M2⟩ := (id_rows (a0 := .un) (a2 := lowS s2) (a3 := lowS s3) (a4 := lowS s4) (a5 := lowS s5) (a6 := lowS s6) (a7 := lowS s7) (a8 := lowS s8) (a9 := lowS s9) (a10 := lowS s10) hg).get
  obtain ⟨d, g2, ed, h2, u, rfl, u1, u2⟩ := (rnd_row (a0 := .un) (a2 := lowS s2) (a3 := .ow (M.map vecD)) (a4 := lowS s4) (a5 := lowS s5) (a6 := lowS s6) (a7 := lowS s7) (a8 := lowS s8) (a9 := lowS s9) (a10 := lowS s10) h1).get
  have dw : WG (m__law_draw [.int 24] g2) (fun d g' => ∃ z : Int, d = .int z ∧ g'.Ok ∧ 0 ≤ z ∧ z < 24) := draw_then h2 (by decide) (by decide) fun z g3 h3 z0 z1 => ⟨z, rfl, h3, z0, z1⟩
  obtain ⟨d, g3, ez, z, rfl, h3, z0, z1⟩ := dw.get
  have ix : ixN (M.map vecD).length z = some z.toNat := ixNI z0 (by rw [List.length_map, M1]; exact z1)
  have e1 : sAsgF 3 (aLc [11] (iRange (aCons (eC (.int 24)) aNil)) (gNm 11) mTrue id19) (lowE (E19 s2 s3 s4 s5 s6 s7 s8 s9 s10)) g = .ok (.nx [.un, .rng, lowS s2, .ow (M.map vecD), lowS s4, lowS s5, lowS s6, lowS s7, lowS s8, lowS s9, lowS s10, .un, .un, .un, .un] g1) := by
    unfold sAsgF
    simp only [E19, lowE_cons, lowE_nil, lowS_un, lowS_rng, el, bind_ok]
    rfl
  have e2 : sSetI 3 rnd19 (eCallG 1 m__law_draw (aCons (eC (.int 24)) aNil)) [.un, .rng, lowS s2, .ow (M.map vecD), lowS s4, lowS s5, lowS s6, lowS s7, lowS s8, lowS s9, lowS s10, .un, .un, .un, .un] g1 = .ok (.nx [.un, .rng, lowS s2, .ow ((M.map vecD).set z.toNat (vecD u)), lowS s4, lowS s5, lowS s6, lowS s7, lowS s8, lowS s9, lowS s10, .un, .un, .un, .un] g3) := by
    unfold sSetI
    simp only [List.getElem?_cons_succ, List.getElem?_cons_zero, ed, bind_ok, eCallG_, aCons_, aNil_, eC_, noE, ez, ix]
    rfl
  have eS : sSeq (sAsgF 3 (aLc [11] (iRange (aCons (eC (.int 24)) aNil)) (gNm 11) mTrue id19)) (sSetI 3 rnd19 (eCallG 1 m__law_draw (aCons (eC (.int 24)) aNil))) (lowE (E19 s2 s3 s4 s5 s6 s7 s8 s9 s10)) g = .ok (.nx [.un, .rng, lowS s2, .ow ((M.map vecD).set z.toNat (vecD u)), lowS s4, lowS s5, lowS s6, lowS s7, lowS s8, lowS s9, lowS s10, .un, .un, .un, .un] g3) := by rw [sSeq_, e1, bind_ok]; exact e2
  have ex : ∃ (t2 t4 t5 t6 t7 t8 t9 t10 : MSl), msLiftS [3] (sSeq (sAsgF 3 (aLc [11] (iRange (aCons (eC (.int 24)) aNil)) (gNm 11) mTrue id19)) (sSetI 3 rnd19 (eCallG 1 m__law_draw (aCons (eC (.int 24)) aNil)))) (E19 s2 s3 s4 s5 s6 s7 s8 s9 s10) ⟨g, st⟩ = .nx (E19 t2 (.v (.d (matD (M.set z.toNat u)))) t4 t5 t6 t7 t8 t9 t10) ⟨g3, st⟩ := by
    unfold msLiftS
    simp only [eS]
    unfold matD
    rw [List.map_set]
    exact ⟨_, _, _, _, _, _, _, _, rfl⟩
  obtain ⟨t2, t4, t5, t6, t7, t8, t9, t10, ex⟩ := ex
  refine ⟨M.set z.toNat u, g3, t2, t4, t5, t6, t7, t8, t9, t10, ex, h3, by rw [List.length_set]; exact M1, fun r hr => ?_⟩
  rcases List.mem_or_eq_of_mem_set hr with hr | rfl
  · exact M2 r hr
  · exact ⟨u1, u2⟩
end
@[reducible] def sec19 : MMS := (msSeq (msLiftS [3] (sSeq (sAsgF 3 (aLc [11] (iRange (aCons (eC (.int 24)) aNil)) (gNm 11) mTrue (eOfL (aLc [12] (iRange (aCons (eC (.int 24)) aNil)) (gNm 12) mTrue (eTup (aCons (eCall dIntOf (aCons (eOp dEq (eVar 12) (eVar 11)) aNil)) (aCons (eC (.int 1)) aNil))))))) (sSetI 3 (eOfL (aLc [12] (iRange (aCons (eC (.int 24)) aNil)) (gNm 12) mTrue (eTup (aCons (eOp dAdd (eC (.int 1)) (eCallG 1 m__law_draw (aCons (eC (.int 3)) aNil))) (aCons (eC (.int 1)) aNil))))) (eCallG 1 m__law_draw (aCons (eC (.int 24)) aNil)))))
    (msSeq (msAsg 4 (mOfF (fLift false (aLc [13] (iSeqD (eVar 3)) (gNm 13) mTrue (eCallG 1 m__law_small aNil)))))
    (msSeq (msIf (tLift false (tNotM (eTest (eCall m__law_check_solution (aCons (eVar 3) (aCons (eVar 4) (aCons (eCall m_solve_linear (aCons (eVar 3) (aCons (eVar 4) aNil))) aNil))))))) (msRet (mLift false (eC (.bl false)))) msNx)
    (msSeq (msAsg 5 (mLift false (eOp dAdd (eSl (eVar 3) pNo (pAt (eC (.int 23)))) (eOfL (aLst (aCons (eOp dIx (eVar 3) (eC (.int 0))) aNil))))))
    (msSeq (msAsg 6 (mLift false (eOp dAdd (eSl (eVar 4) pNo (pAt (eC (.int 23)))) (eOfL (aLst (aCons (eCall m__law_add (aCons (eOp dIx (eVar 4) (eC (.int 0))) (aCons (eTup (aCons (eC (.int 1)) (aCons (eC (.int 1)) aNil))) aNil))) aNil))))))
    (msSeq (msAsg 7 (mLift false (eCall m_solve_linear (aCons (eVar 5) (aCons (eVar 6) aNil)))))
    (msSeq (msIf (tBor false (tOrM (eTest (eOp dNe (eOp dIx (eVar 7) (eC (.int 0))) (eC (.str "certificate")))) (tNotM (eTest (eCall m__law_check_solution (aCons (eVar 5) (aCons (eVar 6) (aCons (eVar 7) aNil)))))))) (msRet (mLift false (eC (.bl false)))) msNx)
    (msSeq (msAsg 8 (mLift false (eOfL (aLst (aCons (eCall m_solve_linear (aCons (eOfL (aLst aNil)) (aCons (eOfL (aLst aNil)) aNil))) (aCons (eCall m_solve_linear (aCons (eOfL (aLst (aCons (eOfL (aLst aNil)) aNil))) (aCons (eOfL (aLst (aCons (eTup (aCons (eC (.int 0)) (aCons (eC (.int 1)) aNil))) aNil))) aNil))) (aCons (eOp dIx (eCall m_solve_linear (aCons (eOfL (aLst (aCons (eOfL (aLst aNil)) aNil))) (aCons (eOfL (aLst (aCons (eTup (aCons (eC (.int 2)) (aCons (eC (.int 1)) aNil))) aNil))) aNil))) (eC (.int 0))) aNil)))))))
    (msRet (mLift false (eCall (m__law_equal 12) (aCons (eVar 8) (aCons (eOfL (aLst (aCons (eTup (aCons (eC (.str "solution")) (aCons (eOfL (aLst aNil)) aNil))) (aCons (eTup (aCons (eC (.str "solution")) (aCons (eOfL (aLst aNil)) aNil))) (aCons (eC (.str "certificate")) aNil))))) aNil)))))))))))))
theorem c19_1 : m_solve_linear [.lst [], .lst []] = .ok (.tup [.str "solution", .lst []]) := by kernel_rfl
theorem c19_2 : m_solve_linear [.lst [.lst []], .lst [.tup [.int 0, .int 1]]] = .ok (.tup [.str "solution", .lst []]) := by kernel_rfl
theorem c19_0 : (m_solve_linear [.lst [.lst []], .lst [.tup [.int 2, .int 1]]]).bind (fun d => dIx d (.int 0)) = .ok (.str "certificate") := by kernel_rfl
theorem c19_3 : ∃ d, m_solve_linear [.lst [.lst []], .lst [.tup [.int 2, .int 1]]] = .ok d ∧ dIx d (.int 0) = .ok (.str "certificate") := by
  have h := c19_0
  generalize m_solve_linear [.lst [.lst []], .lst [.tup [.int 2, .int 1]]] = r at h ⊢
  cases r with
  | ok d => exact ⟨d, rfl, h⟩
  | err x => cases h
  | stuck => cases h
theorem c19_e : m__law_equal 12 [.lst [.tup [.str "solution", .lst []], .tup [.str "solution", .lst []], .str "certificate"], .lst [.tup [.str "solution", .lst []], .tup [.str "solution", .lst []], .str "certificate"]] = .ok (.bl true) := by kernel_rfl
theorem cut23 {l : List D} (h : l.length = 24) : DL.cutD l none (some 23) = l.take 23 := by
  have : HT.sIx 24 24 (some 23) = 23 := by decide
  have h0 : HT.sIx 24 0 none = 0 := rfl
  unfold DL.cutD
  rw [h, this, h0]
  rfl
theorem sec19_ok {s2 s3 s4 s5 s6 s7 s8 s9 s10 : MSl} {st : List MO} {g : Rng} (hg : g.Ok) : WS (sec19 (E19 s2 s3 s4 s5 s6 s7 s8 s9 s10) ⟨g, st⟩) (fun o => ∃ Z', o = .rt (.d (.bl true)) Z') := by
  obtain ⟨M, g1, t2, t4, t5, t6, t7, t8, t9, t10, e3, h1, M1, M2⟩ := lift3 (s2 := s2) (s3 := s3) (s4 := s4) (s5 := s5) (s6 := s6) (s7 := s7) (s8 := s8) (s9 := s9) (s10 := s10) (st := st) hg
  obtain ⟨l, g2, el, h2, ts, rfl, T1, T2⟩ := (small_row (a0 := .un) (a2 := lowS t2) (a4 := lowS t4) (a5 := lowS t5) (a6 := lowS t6) (a7 := lowS t7) (a8 := lowS t8) (a9 := lowS t9) (a10 := lowS t10) M1 h1).get
  have B : Big M ts 192 := ⟨M1, fun r hr => (M2 r hr).1, T1, fun r hr => (M2 r hr).2, fun q hq => ⟨(T2 q hq).1.up (by decide), (T2 q hq).2⟩⟩
  obtain ⟨d, hd, k, x, rfl, hk, hx, hl, hc⟩ := big_good B (by decide)
  have hchk : m__law_check_solution [matD M, vecD ts, .tup [.str k, vecD x]] = .ok (.bl true) := by
    rw [lcheck_ok B.g hk (fun q hq => (hx q hq).up (by decide)) (by omega), hc]
  obtain ⟨_, y, hd2, rfl, hy, hc2, B2⟩ := B.twice
  have hyl : y.length ≤ 24 := by
    obtain ⟨_, e, k', y', rfl, _, _, hl', _⟩ := big_good B2 (by decide)
    rw [hd2] at e
    have := congrArg (fun r : Res D => match r with | .ok (.tup [_, .lst l]) => l.length | _ => 0) e
    simp [vecD] at this
    omega
  have hchk2 : m__law_check_solution [matD (M.take 23 ++ [lAt M 0]), vecD (ts.take 23 ++ [rAt ts 0 + 1]), .tup [.str "certificate", vecD y]] = .ok (.bl true) := by
    rw [lcheck_ok B2.g (.inr rfl) (fun q hq => (hy q hq).up (by decide)) (by omega), hc2]
  have ne3 : dNe (.str "certificate") (.str "certificate") = .ok (.bl false) := by kernel_rfl
  unfold sec19
  rw [msSeq_, e3, seqM_nx, msSeq_]
  have a4 : msAsg 4 (mOfF (fLift false (aLc [13] (iSeqD (eVar 3)) (gNm 13) mTrue (eCallG 1 m__law_small aNil)))) (E19 t2 (.v (.d (matD M))) t4 t5 t6 t7 t8 t9 t10) ⟨g1, st⟩ = .nx (E19 t2 (.v (.d (matD M))) (.v (.d (vecD ts))) t5 t6 t7 t8 t9 t10) ⟨g2, st⟩ := by
    rw [msAsg_]
    unfold mOfF
    rw [fLift_]
    simp only [E19, lowE_cons, lowE_nil, lowS_d, lowS_un, lowS_rng, el, liftM_ok, bindM_ok, asD_map]
    rfl
  rw [a4, seqM_nx, msSeq_, msIf_]
  have b1 : tLift false (tNotM (eTest (eCall m__law_check_solution (aCons (eVar 3) (aCons (eVar 4) (aCons (eCall m_solve_linear (aCons (eVar 3) (aCons (eVar 4) aNil))) aNil)))))) (E19 t2 (.v (.d (matD M))) (.v (.d (vecD ts))) t5 t6 t7 t8 t9 t10) ⟨g2, st⟩ = .ok false ⟨g2, st⟩ := by
    rw [tLift_]
    simp only [E19, lowE_cons, lowE_nil, lowS_d, tNotM_, eTest_, eCall_, aCons_, aNil_, eVar_, List.getElem?_cons_succ, List.getElem?_cons_zero, bind_ok, pureG_ok', hd, hchk]
    simp
  rw [b1, xS_ok, if_neg (by decide)]
  have s3 : dSl (matD M) none (some 23) = .ok (.lst ((M.take 23).map vecD)) := by
    unfold matD
    rw [dSl_lst, cut23 (by rw [List.length_map]; exact M1), List.map_take]
  have s4 : dSl (vecD ts) none (some 23) = .ok (.lst ((ts.take 23).map frD)) := by
    unfold vecD
    rw [dSl_lst, cut23 (by rw [List.length_map]; exact T1), List.map_take]
  have i0 : dIx (matD M) (.int 0) = .ok (vecD (lAt M 0)) := by
    obtain ⟨r, M', rfl⟩ : ∃ r M', M = r :: M' := by cases M with | nil => simp at M1 | cons r M' => exact ⟨r, M', rfl⟩
    simp [matD, lAt]
    unfold atI
    rw [ixNI (by decide) (by rw [List.length_cons]; omega)]
    rfl
  have i1 : dIx (vecD ts) (.int 0) = .ok (frD (rAt ts 0)) := by
    obtain ⟨r, M', rfl⟩ : ∃ r M', ts = r :: M' := by cases ts with | nil => simp at T1 | cons r M' => exact ⟨r, M', rfl⟩
    simp [vecD, rAt]
    unfold atI
    rw [ixNI (by decide) (by rw [List.length_cons]; omega)]
    rfl
  have r0 : RB 5 (rAt ts 0) := (T2 _ (by rw [rAt_get (by omega)]; exact List.getElem_mem _)).1
  have a1 : m__law_add [frD (rAt ts 0), .tup [.int 1, .int 1]] = .ok (frD (rAt ts 0 + 1)) := law_add_ok (q := 1) r0 (b := 5) ⟨by decide, by decide⟩ (by decide)
  have p3 : dAdd (.lst ((M.take 23).map vecD)) (.lst [vecD (lAt M 0)]) = .ok (matD (M.take 23 ++ [lAt M 0])) := by
    rw [dAdd_ll (by simp; omega)]
    simp [matD]
  have p4 : dAdd (.lst ((ts.take 23).map frD)) (.lst [frD (rAt ts 0 + 1)]) = .ok (vecD (ts.take 23 ++ [rAt ts 0 + 1])) := by
    rw [dAdd_ll (by simp; omega)]
    simp [vecD]
  generalize hA : matD (M.take 23 ++ [lAt M 0]) = A at p3 hd2 hchk2
  generalize hC : vecD (ts.take 23 ++ [rAt ts 0 + 1]) = C at p4 hd2 hchk2
  have x0 : dIx (.tup [.str "certificate", vecD y]) (.int 0) = .ok (.str "certificate") := rfl
  obtain ⟨d3, hd3, x3⟩ : ∃ d, m_solve_linear [.lst [.lst []], .lst [.tup [.int 2, .int 1]]] = .ok d ∧ dIx d (.int 0) = .ok (.str "certificate") := c19_3
  have a5 : mLift false (eOp dAdd (eSl (eVar 3) pNo (pAt (eC (.int 23)))) (eOfL (aLst (aCons (eOp dIx (eVar 3) (eC (.int 0))) aNil)))) (E19 t2 (.v (.d (matD M))) (.v (.d (vecD ts))) t5 t6 t7 t8 t9 t10) ⟨g2, st⟩ = .ok (.d A) ⟨g2, st⟩ := by
    rw [mLift_]
    simp only [E19, lowE_cons, lowE_nil, lowS_d, eOp_, eSl_, pNo_, pAt_, eC_, eOfL_, aLst_, aCons_, aNil_, eVar_, List.getElem?_cons_succ, List.getElem?_cons_zero, bind_ok, pureG_ok', s3, i0]
    simp [p3, s3, -List.map_take]
  have a6 : mLift false (eOp dAdd (eSl (eVar 4) pNo (pAt (eC (.int 23)))) (eOfL (aLst (aCons (eCall m__law_add (aCons (eOp dIx (eVar 4) (eC (.int 0))) (aCons (eTup (aCons (eC (.int 1)) (aCons (eC (.int 1)) aNil))) aNil))) aNil)))) (E19 t2 (.v (.d (matD M))) (.v (.d (vecD ts))) (.v (.d A)) t6 t7 t8 t9 t10) ⟨g2, st⟩ = .ok (.d C) ⟨g2, st⟩ := by
    rw [mLift_]
    simp only [E19, lowE_cons, lowE_nil, lowS_d, eOp_, eSl_, pNo_, pAt_, eC_, eOfL_, aLst_, aCons_, aNil_, eVar_, eTup_, eCall_, List.getElem?_cons_succ, List.getElem?_cons_zero, bind_ok, pureG_ok', s4, i1]
    simp [p4, a1, s4, -List.map_take]
  have a7 : mLift false (eCall m_solve_linear (aCons (eVar 5) (aCons (eVar 6) aNil))) (E19 t2 (.v (.d (matD M))) (.v (.d (vecD ts))) (.v (.d A)) (.v (.d C)) t7 t8 t9 t10) ⟨g2, st⟩ = .ok (.d (.tup [.str "certificate", vecD y])) ⟨g2, st⟩ := by
    rw [mLift_]
    simp only [E19, lowE_cons, lowE_nil, lowS_d, eCall_, aCons_, aNil_, eVar_, List.getElem?_cons_succ, List.getElem?_cons_zero, bind_ok, pureG_ok', hd2, liftM_ok]
  have b7 : tBor false (tOrM (eTest (eOp dNe (eOp dIx (eVar 7) (eC (.int 0))) (eC (.str "certificate")))) (tNotM (eTest (eCall m__law_check_solution (aCons (eVar 5) (aCons (eVar 6) (aCons (eVar 7) aNil))))))) (E19 t2 (.v (.d (matD M))) (.v (.d (vecD ts))) (.v (.d A)) (.v (.d C)) (.v (.d (.tup [.str "certificate", vecD y]))) t8 t9 t10) ⟨g2, st⟩ = .ok false ⟨g2, st⟩ := by
    rw [tBor_]
    simp only [E19, lowB_cons, lowB_nil, lowBS_d, tOrM_, tNotM_, eTest_, eOp_, eC_, eCall_, aCons_, aNil_, eVar_, List.getElem?_cons_succ, List.getElem?_cons_zero, bind_ok, pureG_ok', x0]
    simp [ne3, hchk2]
  rw [msNx_, seqM_nx, msSeq_, msAsg_, a5, xS_ok]
  show WS (seqM _ (.nx (E19 t2 (.v (.d (matD M))) (.v (.d (vecD ts))) (.v (.d A)) t6 t7 t8 t9 t10) ⟨g2, st⟩)) _
  rw [seqM_nx, msSeq_, msAsg_, a6, xS_ok]
  show WS (seqM _ (.nx (E19 t2 (.v (.d (matD M))) (.v (.d (vecD ts))) (.v (.d A)) (.v (.d C)) t7 t8 t9 t10) ⟨g2, st⟩)) _
  rw [seqM_nx, msSeq_, msAsg_, a7, xS_ok]
  show WS (seqM _ (.nx (E19 t2 (.v (.d (matD M))) (.v (.d (vecD ts))) (.v (.d A)) (.v (.d C)) (.v (.d (.tup [.str "certificate", vecD y]))) t8 t9 t10) ⟨g2, st⟩)) _
  rw [seqM_nx, msSeq_, msIf_, b7, xS_ok, if_neg (by decide), msNx_, seqM_nx, msSeq_, msAsg_, mLift_]
  simp only [eOp_, eC_, eOfL_, aLst_, eCall_, eTup_, aCons_, aNil_, bind_ok, pureG_ok', List.length_cons, List.length_nil, Nat.reduceAdd, Nat.reduceLeDiff, if_true, c19_1, c19_2, hd3, x3, liftM_ok, xS_ok]
  show WS (seqM _ (.nx (E19 t2 (.v (.d (matD M))) (.v (.d (vecD ts))) (.v (.d A)) (.v (.d C)) (.v (.d (.tup [.str "certificate", vecD y]))) (.v (.d (.lst [.tup [.str "solution", .lst []], .tup [.str "solution", .lst []], .str "certificate"]))) t9 t10) ⟨g2, st⟩)) _
  rw [seqM_nx, msRet_, mLift_]
  simp only [E19, lowE_cons, lowE_nil, lowS_d, eOp_, eC_, eOfL_, aLst_, eCall_, eTup_, eVar_, aCons_, aNil_, bind_ok, pureG_ok', List.getElem?_cons_succ, List.getElem?_cons_zero, List.length_cons, List.length_nil, Nat.reduceAdd, Nat.reduceLeDiff, if_true, c19_e, liftM_ok, xS_ok, WS_rt]
  exact ⟨_, rfl⟩
theorem law_true : ∀ g : Rng, g.Ok → ∃ Z', bb_law (envLM 15) ⟨g, []⟩ = .rt (.d (.bl true)) Z' := by
  intro g hg
  have key : WS (bb_law (envLM 15) ⟨g, []⟩) (fun o => ∃ Z', o = .rt (.d (.bl true)) Z') := by
    unfold bb_law
    show WS (msSeq _ sec19 (E19 .un .un .un .un .un .un .un .un .un) ⟨g, []⟩) _
    rw [msSeq_]
    refine WS_seq (WS.mono (P := fun o => ∃ s2 s3 s4 s5 s6 s7 s8 s9 s10 Z, o = .nx (E19 s2 s3 s4 s5 s6 s7 s8 s9 s10) Z ∧ Z.g.Ok) ?_ ?_)
    · rw [msFor_, miRange_, mLift_, eC_, liftM_ok, bindM_ok]
      simp only
      rw [if_pos (by decide), xS_ok]
      refine WS_forM (fun _ e Z => Z.g.Ok ∧ ∃ s2 s3 s4 s5 s6 s7 s8 s9 s10, e = E19 s2 s3 s4 s5 s6 s7 s8 s9 s10) (m := 0) ⟨hg, _, _, _, _, _, _, _, _, _, rfl⟩ ?_ ?_
      · rintro i w hw e ⟨g0', st⟩ ⟨h0, s2, s3, s4, s5, s6, s7, s8, s9, s10, rfl⟩
        show WS (msSeq _ body19 (E19 (.v w) s3 s4 s5 s6 s7 s8 s9 s10) ⟨g0', st⟩) _
        rw [msSeq_]
        refine WS_seq (WS.mono (P := fun o => ∃ M ts g', o = .nx (E19 (.v w) (.v (.d (matD M))) (.v (.d (vecD ts))) s5 s6 s7 s8 s9 s10) ⟨g', st⟩ ∧ g'.Ok ∧ Lin M ts) ?_ ?_)
        · rw [msUnp_, mLift_]
          simp only [E19, lowE_cons, lowE_nil, lowS_rng, lowS_un, WS_xS, WM_liftM, eCallG_, aNil_, List.getElem?_cons_succ, List.getElem?_cons_zero, bind_ok]
          rw [WG_noE]
          refine lin_then h0 fun M ts g' h' L => ?_
          simp only [parts_d, List.map_cons, List.map_nil, setsE_cons, setsE_nil, WS_nx]
          exact ⟨M, ts, g', rfl, h', L⟩
        rintro o ⟨M, ts, g1, rfl, h1, L⟩
        rw [seqM_nx]
        obtain ⟨d, hd, k, x, rfl, hk, hx, hl, hc⟩ := lin_good L
        obtain ⟨s7', s9', s10', st', e⟩ := body19_ok (s2 := .v w) (g := g1) (st := st) (s5 := s5) (s6 := s6) (s7 := s7) (s8 := s8) (s9 := s9) (s10 := s10) L hd hk hx hl hc
        rw [e, WS_nx]
        exact ⟨_, _, rfl, h1, _, _, _, _, _, _, _, _, _, rfl⟩
      · rintro e Z ⟨h, s2, s3, s4, s5, s6, s7, s8, s9, s10, rfl⟩
        exact ⟨_, _, _, _, _, _, _, _, _, _, rfl, h⟩
    · rintro o ⟨s2, s3, s4, s5, s6, s7, s8, s9, s10, ⟨g1, st⟩, rfl, h1⟩
      rw [seqM_nx]
      exact sec19_ok h1
  obtain ⟨o, e, Z', h⟩ := key.get
  exact ⟨Z', by rw [e]; exact h⟩
structure Txt (K : PySem.W.Frag) (mg : Str → Option Value) (cm : Str → Option Addr) (tb : List (Addr × Str)) : Prop where
  D_gcd : TD K mg "gcd" s_gcd d_gcd
  D_fraction : TD K mg "fraction" s_fraction d_fraction
  D_subtract : TD K mg "subtract" s_subtract d_subtract
  D_multiply : TD K mg "multiply" s_multiply d_multiply
  D_divide : TD K mg "divide" s_divide d_divide
  D_check_shape : TD K mg "check_shape" s_check_shape d_check_shape
  D_subtract_multiple : TD K mg "subtract_multiple" s_subtract_multiple d_subtract_multiple
  D_scaled : TD K mg "scaled" s_scaled d_scaled
  D_pivot : TD K mg "pivot" s_pivot d_pivot
  D_unit_row : TD K mg "unit_row" s_unit_row d_unit_row
  D_solve_linear : TD K mg "solve_linear" s_solve_linear d_solve_linear
  D__law_source : TD K mg "_law_source" s__law_source d__law_source
  D__law_draw : TD K mg "_law_draw" s__law_draw d__law_draw
  D__law_choice : TD K mg "_law_choice" s__law_choice d__law_choice
  D__law_equal : TD K mg "_law_equal" s__law_equal d__law_equal
  D__law_reduce : TD K mg "_law_reduce" s__law_reduce d__law_reduce
  D__law_add : TD K mg "_law_add" s__law_add d__law_add
  D__law_multiply : TD K mg "_law_multiply" s__law_multiply d__law_multiply
  D__law_sum : TD K mg "_law_sum" s__law_sum d__law_sum
  D__law_small : TD K mg "_law_small" s__law_small d__law_small
  D__law_linear_case : TD K mg "_law_linear_case" s__law_linear_case d__law_linear_case
  D__law_check_solution : TD K mg "_law_check_solution" s__law_check_solution d__law_check_solution
  D_law : TD K mg "law" s_law d_law
  n_abs : mg "abs" = none
  n_all : mg "all" = none
  n_bool : mg "bool" = none
  n_enumerate : mg "enumerate" = none
  n_int : mg "int" = none
  n_isinstance : mg "isinstance" = none
  n_len : mg "len" = none
  n_list : mg "list" = none
  n_range : mg "range" = none
  n_repr : mg "repr" = none
  n_str : mg "str" = none
  n_tuple : mg "tuple" = none
  n_zip : mg "zip" = none
  g_ZERO : mg "ZERO" = some (.ref (He.ga K "ZERO"))
  r_ZERO : ∀ H A, Rep ⟨K, cm, tb⟩ H A k_ZERO (.ref (He.ga K "ZERO"))
  g_ONE : mg "ONE" = some (.ref (He.ga K "ONE"))
  r_ONE : ∀ H A, Rep ⟨K, cm, tb⟩ H A k_ONE (.ref (He.ga K "ONE"))
section
variable (P : Program) (w : World) (K : PySem.W.Frag) (mg : Str → Option Value) (base : Heap) (cm : Str → Option Addr) (tb : List (Addr × Str))
abbrev C_gcd : Prop := CalD P w K mg base 1 "gcd" s_gcd (d_gcd.dvs K) (d_gcd.kws K) (He.ga K "gcd") ["one", "other"] (spD ⟨K, cm, tb⟩ m_gcd)
abbrev C_fraction : Prop := CalD P w K mg base 3 "fraction" s_fraction (d_fraction.dvs K) (d_fraction.kws K) (He.ga K "fraction") ["num", "den"] (spD ⟨K, cm, tb⟩ m_fraction)
abbrev C_subtract : Prop := CalD P w K mg base 5 "subtract" s_subtract (d_subtract.dvs K) (d_subtract.kws K) (He.ga K "subtract") ["one", "other"] (spD ⟨K, cm, tb⟩ m_subtract)
abbrev C_multiply : Prop := CalD P w K mg base 5 "multiply" s_multiply (d_multiply.dvs K) (d_multiply.kws K) (He.ga K "multiply") ["one", "other"] (spD ⟨K, cm, tb⟩ m_multiply)
abbrev C_divide : Prop := CalD P w K mg base 5 "divide" s_divide (d_divide.dvs K) (d_divide.kws K) (He.ga K "divide") ["one", "other"] (spD ⟨K, cm, tb⟩ m_divide)
abbrev C_check_shape : Prop := CalD P w K mg base 1 "check_shape" s_check_shape (d_check_shape.dvs K) (d_check_shape.kws K) (He.ga K "check_shape") ["rows", "targets"] (spD ⟨K, cm, tb⟩ m_check_shape)
abbrev C_subtract_multiple : Prop := CalD P w K mg base 7 "subtract_multiple" s_subtract_multiple (d_subtract_multiple.dvs K) (d_subtract_multiple.kws K) (He.ga K "subtract_multiple") ["row", "other", "quantity"] (spD ⟨K, cm, tb⟩ m_subtract_multiple)
abbrev C_scaled : Prop := CalD P w K mg base 7 "scaled" s_scaled (d_scaled.dvs K) (d_scaled.kws K) (He.ga K "scaled") ["row", "quantity"] (spD ⟨K, cm, tb⟩ m_scaled)
abbrev C_pivot : Prop := CalD P w K mg base 9 "pivot" s_pivot (d_pivot.dvs K) (d_pivot.kws K) (He.ga K "pivot") ["lines", "pos", "spot"] (spF ⟨K, cm, tb⟩ m_pivot)
abbrev C_unit_row : Prop := CalD P w K mg base 1 "unit_row" s_unit_row (d_unit_row.dvs K) (d_unit_row.kws K) (He.ga K "unit_row") ["quantity", "pos"] (spD ⟨K, cm, tb⟩ m_unit_row)
abbrev C_solve_linear : Prop := CalD P w K mg base 11 "solve_linear" s_solve_linear (d_solve_linear.dvs K) (d_solve_linear.kws K) (He.ga K "solve_linear") ["rows", "targets"] (spT [false, true] ⟨K, cm, tb⟩ m_solve_linear)
abbrev C__law_draw : Prop := CalD P w K mg base 1 "_law_draw" s__law_draw (d__law_draw.dvs K) (d__law_draw.kws K) (He.ga K "_law_draw") ["_law_rng", "_law_quantity"] (spG ⟨K, cm, tb⟩ m__law_draw)
abbrev C__law_choice : Prop := CalD P w K mg base 3 "_law_choice" s__law_choice (d__law_choice.dvs K) (d__law_choice.kws K) (He.ga K "_law_choice") ["_law_rng", "_law_some"] (spG ⟨K, cm, tb⟩ m__law_choice)
abbrev C__law_equal : Prop := CalD P w K mg base 13 "_law_equal" s__law_equal (d__law_equal.dvs K) (d__law_equal.kws K) (He.ga K "_law_equal") ["_law_result", "_law_expected"] (spD ⟨K, cm, tb⟩ (m__law_equal 12))
abbrev C__law_reduce : Prop := CalD P w K mg base 1 "_law_reduce" s__law_reduce (d__law_reduce.dvs K) (d__law_reduce.kws K) (He.ga K "_law_reduce") ["_law_num", "_law_den"] (spD ⟨K, cm, tb⟩ m__law_reduce)
abbrev C__law_add : Prop := CalD P w K mg base 3 "_law_add" s__law_add (d__law_add.dvs K) (d__law_add.kws K) (He.ga K "_law_add") ["_law_one", "_law_other"] (spD ⟨K, cm, tb⟩ m__law_add)
abbrev C__law_multiply : Prop := CalD P w K mg base 3 "_law_multiply" s__law_multiply (d__law_multiply.dvs K) (d__law_multiply.kws K) (He.ga K "_law_multiply") ["_law_one", "_law_other"] (spD ⟨K, cm, tb⟩ m__law_multiply)
abbrev C__law_sum : Prop := CalD P w K mg base 5 "_law_sum" s__law_sum (d__law_sum.dvs K) (d__law_sum.kws K) (He.ga K "_law_sum") ["_law_some"] (spD ⟨K, cm, tb⟩ m__law_sum)
abbrev C__law_small : Prop := CalD P w K mg base 5 "_law_small" s__law_small (d__law_small.dvs K) (d__law_small.kws K) (He.ga K "_law_small") ["_law_rng"] (spG ⟨K, cm, tb⟩ m__law_small)
abbrev C__law_linear_case : Prop := CalD P w K mg base 7 "_law_linear_case" s__law_linear_case (d__law_linear_case.dvs K) (d__law_linear_case.kws K) (He.ga K "_law_linear_case") ["_law_rng"] (spG ⟨K, cm, tb⟩ m__law_linear_case)
abbrev C__law_check_solution : Prop := CalD P w K mg base 7 "_law_check_solution" s__law_check_solution (d__law_check_solution.dvs K) (d__law_check_solution.kws K) (He.ga K "_law_check_solution") ["_law_my_rows", "_law_my_targets", "_law_answer"] (spD ⟨K, cm, tb⟩ m__law_check_solution)
end
section
variable {P : Program} {w : World} {K : PySem.W.Frag} {mg : Str → Option Value} {base : Heap} {cm : Str → Option Addr} {tb : List (Addr × Str)}
theorem bd_gcd {kws : List (Str × V)} {f : Addr} (fd : FuncData) (F : FunD K "gcd" "gcd" (defArgs s_gcd) (defBody s_gcd) (defScope s_gcd) [] kws f fd) : L2.Binds K fd ["one", "other"] [] := F.bindsN fun _ _ _ _ _ _ us hl => match us, hl with | [_, _], _ => rfl
theorem bd_subtract {kws : List (Str × V)} {f : Addr} (fd : FuncData) (F : FunD K "subtract" "subtract" (defArgs s_subtract) (defBody s_subtract) (defScope s_subtract) [] kws f fd) : L2.Binds K fd ["one", "other"] [] := F.bindsN fun _ _ _ _ _ _ us hl => match us, hl with | [_, _], _ => rfl
theorem bd_multiply {kws : List (Str × V)} {f : Addr} (fd : FuncData) (F : FunD K "multiply" "multiply" (defArgs s_multiply) (defBody s_multiply) (defScope s_multiply) [] kws f fd) : L2.Binds K fd ["one", "other"] [] := F.bindsN fun _ _ _ _ _ _ us hl => match us, hl with | [_, _], _ => rfl
theorem bd_divide {kws : List (Str × V)} {f : Addr} (fd : FuncData) (F : FunD K "divide" "divide" (defArgs s_divide) (defBody s_divide) (defScope s_divide) [] kws f fd) : L2.Binds K fd ["one", "other"] [] := F.bindsN fun _ _ _ _ _ _ us hl => match us, hl with | [_, _], _ => rfl
theorem bd_check_shape {kws : List (Str × V)} {f : Addr} (fd : FuncData) (F : FunD K "check_shape" "check_shape" (defArgs s_check_shape) (defBody s_check_shape) (defScope s_check_shape) [] kws f fd) : L2.Binds K fd ["rows", "targets"] [] := F.bindsN fun _ _ _ _ _ _ us hl => match us, hl with | [_, _], _ => rfl
theorem bd_subtract_multiple {kws : List (Str × V)} {f : Addr} (fd : FuncData) (F : FunD K "subtract_multiple" "subtract_multiple" (defArgs s_subtract_multiple) (defBody s_subtract_multiple) (defScope s_subtract_multiple) [] kws f fd) : L2.Binds K fd ["row", "other", "quantity"] [] := F.bindsN fun _ _ _ _ _ _ us hl => match us, hl with | [_, _, _], _ => rfl
theorem bd_scaled {kws : List (Str × V)} {f : Addr} (fd : FuncData) (F : FunD K "scaled" "scaled" (defArgs s_scaled) (defBody s_scaled) (defScope s_scaled) [] kws f fd) : L2.Binds K fd ["row", "quantity"] [] := F.bindsN fun _ _ _ _ _ _ us hl => match us, hl with | [_, _], _ => rfl
theorem bd_pivot {kws : List (Str × V)} {f : Addr} (fd : FuncData) (F : FunD K "pivot" "pivot" (defArgs s_pivot) (defBody s_pivot) (defScope s_pivot) [] kws f fd) : L2.Binds K fd ["lines", "pos", "spot"] [] := F.bindsN fun _ _ _ _ _ _ us hl => match us, hl with | [_, _, _], _ => rfl
theorem bd_unit_row {kws : List (Str × V)} {f : Addr} (fd : FuncData) (F : FunD K "unit_row" "unit_row" (defArgs s_unit_row) (defBody s_unit_row) (defScope s_unit_row) [] kws f fd) : L2.Binds K fd ["quantity", "pos"] [] := F.bindsN fun _ _ _ _ _ _ us hl => match us, hl with | [_, _], _ => rfl
theorem bd_solve_linear {kws : List (Str × V)} {f : Addr} (fd : FuncData) (F : FunD K "solve_linear" "solve_linear" (defArgs s_solve_linear) (defBody s_solve_linear) (defScope s_solve_linear) [] kws f fd) : L2.Binds K fd ["rows", "targets"] [] := F.bindsN fun _ _ _ _ _ _ us hl => match us, hl with | [_, _], _ => rfl
theorem bd__law_source {kws : List (Str × V)} {f : Addr} (fd : FuncData) (F : FunD K "_law_source" "_law_source" (defArgs s__law_source) (defBody s__law_source) (defScope s__law_source) [] kws f fd) : L2.Binds K fd ["_law_script"] [] := F.bindsN fun _ _ _ _ _ _ us hl => match us, hl with | [_], _ => rfl
theorem bd__law_draw {kws : List (Str × V)} {f : Addr} (fd : FuncData) (F : FunD K "_law_draw" "_law_draw" (defArgs s__law_draw) (defBody s__law_draw) (defScope s__law_draw) [] kws f fd) : L2.Binds K fd ["_law_rng", "_law_quantity"] [] := F.bindsN fun _ _ _ _ _ _ us hl => match us, hl with | [_, _], _ => rfl
theorem bd__law_choice {kws : List (Str × V)} {f : Addr} (fd : FuncData) (F : FunD K "_law_choice" "_law_choice" (defArgs s__law_choice) (defBody s__law_choice) (defScope s__law_choice) [] kws f fd) : L2.Binds K fd ["_law_rng", "_law_some"] [] := F.bindsN fun _ _ _ _ _ _ us hl => match us, hl with | [_, _], _ => rfl
theorem bd__law_equal {kws : List (Str × V)} {f : Addr} (fd : FuncData) (F : FunD K "_law_equal" "_law_equal" (defArgs s__law_equal) (defBody s__law_equal) (defScope s__law_equal) [] kws f fd) : L2.Binds K fd ["_law_result", "_law_expected"] [] := F.bindsN fun _ _ _ _ _ _ us hl => match us, hl with | [_, _], _ => rfl
theorem bd__law_reduce {kws : List (Str × V)} {f : Addr} (fd : FuncData) (F : FunD K "_law_reduce" "_law_reduce" (defArgs s__law_reduce) (defBody s__law_reduce) (defScope s__law_reduce) [] kws f fd) : L2.Binds K fd ["_law_num", "_law_den"] [] := F.bindsN fun _ _ _ _ _ _ us hl => match us, hl with | [_, _], _ => rfl
theorem bd__law_add {kws : List (Str × V)} {f : Addr} (fd : FuncData) (F : FunD K "_law_add" "_law_add" (defArgs s__law_add) (defBody s__law_add) (defScope s__law_add) [] kws f fd) : L2.Binds K fd ["_law_one", "_law_other"] [] := F.bindsN fun _ _ _ _ _ _ us hl => match us, hl with | [_, _], _ => rfl
theorem bd__law_multiply {kws : List (Str × V)} {f : Addr} (fd : FuncData) (F : FunD K "_law_multiply" "_law_multiply" (defArgs s__law_multiply) (defBody s__law_multiply) (defScope s__law_multiply) [] kws f fd) : L2.Binds K fd ["_law_one", "_law_other"] [] := F.bindsN fun _ _ _ _ _ _ us hl => match us, hl with | [_, _], _ => rfl
theorem bd__law_sum {kws : List (Str × V)} {f : Addr} (fd : FuncData) (F : FunD K "_law_sum" "_law_sum" (defArgs s__law_sum) (defBody s__law_sum) (defScope s__law_sum) [] kws f fd) : L2.Binds K fd ["_law_some"] [] := F.bindsN fun _ _ _ _ _ _ us hl => match us, hl with | [_], _ => rfl
theorem bd__law_small {kws : List (Str × V)} {f : Addr} (fd : FuncData) (F : FunD K "_law_small" "_law_small" (defArgs s__law_small) (defBody s__law_small) (defScope s__law_small) [] kws f fd) : L2.Binds K fd ["_law_rng"] [] := F.bindsN fun _ _ _ _ _ _ us hl => match us, hl with | [_], _ => rfl
theorem bd__law_linear_case {kws : List (Str × V)} {f : Addr} (fd : FuncData) (F : FunD K "_law_linear_case" "_law_linear_case" (defArgs s__law_linear_case) (defBody s__law_linear_case) (defScope s__law_linear_case) [] kws f fd) : L2.Binds K fd ["_law_rng"] [] := F.bindsN fun _ _ _ _ _ _ us hl => match us, hl with | [_], _ => rfl
theorem bd__law_check_solution {kws : List (Str × V)} {f : Addr} (fd : FuncData) (F : FunD K "_law_check_solution" "_law_check_solution" (defArgs s__law_check_solution) (defBody s__law_check_solution) (defScope s__law_check_solution) [] kws f fd) : L2.Binds K fd ["_law_my_rows", "_law_my_targets", "_law_answer"] [] := F.bindsN fun _ _ _ _ _ _ us hl => match us, hl with | [_, _, _], _ => rfl
theorem kb_0 {f : Addr} {fd : FuncData} (F : FunD K "fraction" "fraction" (defArgs s_fraction) (defBody s_fraction) (defScope s_fraction) (d_fraction.dvs K) (d_fraction.kws K) f fd) : KBs K fd ["num", "den"] 2 [] (d_fraction.dvs K) [] [.p 0, .p 1] := kbn10 F (List.cons_ne_nil _ _) _ _ _ fun _ _ _ _ _ _ _ us ws its h1 h2 h3 => match us, ws, its, h1, h2, h3 with | [_, _], [], [_], _, _, _ => ⟨_, rfl, rfl⟩
theorem kb_1 {f : Addr} {fd : FuncData} (F : FunD K "solve_linear" "solve_linear" (defArgs s_solve_linear) (defBody s_solve_linear) (defScope s_solve_linear) (d_solve_linear.dvs K) (d_solve_linear.kws K) f fd) : KBs K fd ["rows", "targets"] 0 ["targets", "rows"] (d_solve_linear.dvs K) [] [.k 1, .k 0] := kbn00 F _ _ _ fun _ _ _ _ _ _ us ws h1 h2 => match us, ws, h1, h2 with | [], [_, _], _, _ => rfl
theorem sc_gcd : FnScope ["one", "other"] ["one", "other"] (defScope s_gcd) := scM
theorem ok_gcd (T : Txt K mg cm tb) : C_gcd P w K mg base cm tb := by
  obtain ⟨fd, F⟩ := T.D_gcd.F
  have sc := sc_gcd
  refine CalD.mk' (fn_spD F sc b_gcd (k := 0) (fun cdv A outer s H E A0 hr => ?_)) F
  obtain ⟨hu, tk, hp⟩ := pre3 P w K mg base outer H E sc hr
  exact (dss_cons (ds_while (fun e => fuGcd e) (fun h1 h2 => ps_while hp h1 h2) (dNeT (dV 1) de_int hu) (dss_one (ds_par (fun h => ps_par (i := 0) (j := 1) rfl sc.nd rfl rfl (by decide) rfl rfl h (by rfl)) (da_cons (dV 1) (da_cons (dModE (dV 0) (dV 1)) da_nil)))))
    (dss_one (ds_ret [] (dV 0))))
theorem sc_fraction : FnScope ["num", "den", "low", "sign"] ["num", "den"] (defScope s_fraction) := scM
theorem ok_fraction (T : Txt K mg cm tb) (G_gcd : C_gcd P w K mg base cm tb) : C_fraction P w K mg base cm tb := by
  obtain ⟨fd, F⟩ := T.D_fraction.F
  have sc := sc_fraction
  refine CalD.mk' (fn_spD F sc b_fraction (k := 2) (fun cdv A outer s H E A0 hr => ?_)) F
  obtain ⟨hu, tk, hp⟩ := pre3 P w K mg base outer H E sc hr
  exact (dss_cons (ds_if (dEqT (dV 1) de_int hu) (dss_one ds_bad) dss_nil)
    (dss_cons (ds_set (i := 2) (fun h => ps_sT sc.nd h) (dCallE (G_gcd.cal bd_gcd) (rmd hr) tk T.D_gcd.g T.D_gcd.k (da_cons (dAbsE T.n_abs (da_cons (dV 0) da_nil)) (da_cons (dAbsE T.n_abs (da_cons (dV 1) da_nil)) da_nil))))
    (dss_cons (ds_set (i := 3) (fun h => ps_sT sc.nd h) (de_ifExp (dGtT (dV 1) de_int) de_int (dNegE de_int)))
    (dss_one (ds_ret [] (dTupE (da_cons (dFDivE (dMulE (dV 3) (dV 0)) (dV 2)) (da_cons (dFDivE (dMulE (dV 3) (dV 1)) (dV 2)) da_nil))))))))
theorem sc_subtract : FnScope ["one", "other"] ["one", "other"] (defScope s_subtract) := scM
theorem ok_subtract (T : Txt K mg cm tb) (G_fraction : C_fraction P w K mg base cm tb) : C_subtract P w K mg base cm tb := by
  obtain ⟨fd, F⟩ := T.D_subtract.F
  have sc := sc_subtract
  refine CalD.mk' (fn_spD F sc b_subtract (k := 4) (fun cdv A outer s H E A0 hr => ?_)) F
  obtain ⟨hu, tk, hp⟩ := pre3 P w K mg base outer H E sc hr
  exact (dss_one (ds_ret [] (dCallN (n := 2) (ks := []) G_fraction (rmd hr) tk T.D_fraction.g T.D_fraction.k (fun _ F => kb_0 F) (fun _ _ => .cons (.int_ _) (.nil)) (fun _ _ => .nil) (da_cons (dSubE (dMulE (dIxE (dV 0) de_int) (dIxE (dV 1) de_int)) (dMulE (dIxE (dV 1) de_int) (dIxE (dV 0) de_int))) (da_cons (dMulE (dIxE (dV 0) de_int) (dIxE (dV 1) de_int)) da_nil)) dk_nil)))
theorem sc_multiply : FnScope ["one", "other"] ["one", "other"] (defScope s_multiply) := scM
theorem ok_multiply (T : Txt K mg cm tb) (G_fraction : C_fraction P w K mg base cm tb) : C_multiply P w K mg base cm tb := by
  obtain ⟨fd, F⟩ := T.D_multiply.F
  have sc := sc_multiply
  refine CalD.mk' (fn_spD F sc b_multiply (k := 4) (fun cdv A outer s H E A0 hr => ?_)) F
  obtain ⟨hu, tk, hp⟩ := pre3 P w K mg base outer H E sc hr
  exact (dss_one (ds_ret [] (dCallN (n := 2) (ks := []) G_fraction (rmd hr) tk T.D_fraction.g T.D_fraction.k (fun _ F => kb_0 F) (fun _ _ => .cons (.int_ _) (.nil)) (fun _ _ => .nil) (da_cons (dMulE (dIxE (dV 0) de_int) (dIxE (dV 1) de_int)) (da_cons (dMulE (dIxE (dV 0) de_int) (dIxE (dV 1) de_int)) da_nil)) dk_nil)))
theorem sc_divide : FnScope ["one", "other"] ["one", "other"] (defScope s_divide) := scM
theorem ok_divide (T : Txt K mg cm tb) (G_fraction : C_fraction P w K mg base cm tb) : C_divide P w K mg base cm tb := by
  obtain ⟨fd, F⟩ := T.D_divide.F
  have sc := sc_divide
  refine CalD.mk' (fn_spD F sc b_divide (k := 4) (fun cdv A outer s H E A0 hr => ?_)) F
  obtain ⟨hu, tk, hp⟩ := pre3 P w K mg base outer H E sc hr
  exact (dss_one (ds_ret [] (dCallN (n := 2) (ks := []) G_fraction (rmd hr) tk T.D_fraction.g T.D_fraction.k (fun _ F => kb_0 F) (fun _ _ => .cons (.int_ _) (.nil)) (fun _ _ => .nil) (da_cons (dMulE (dIxE (dV 0) de_int) (dIxE (dV 1) de_int)) (da_cons (dMulE (dIxE (dV 0) de_int) (dIxE (dV 1) de_int)) da_nil)) dk_nil)))
theorem sc_check_shape : FnScope ["rows", "targets", "pos", "row"] ["rows", "targets"] (defScope s_check_shape) := scM
theorem ok_check_shape (T : Txt K mg cm tb) : C_check_shape P w K mg base cm tb := by
  obtain ⟨fd, F⟩ := T.D_check_shape.F
  have sc := sc_check_shape
  refine CalD.mk' (fn_spD F sc b_check_shape (k := 0) (fun cdv A outer s H E A0 hr => ?_)) F
  obtain ⟨hu, tk, hp⟩ := pre3 P w K mg base outer H E sc hr
  exact (dss_cons (ds_for (fun h1 h2 h3 => ps_for hp rfl h1 h2 h3) (di_enum (fun h => pi_enumA rfl T.n_enumerate h) (da_cons (dV 0) da_nil)) (dg_tup (fun h => pg_tup rfl h) (dgs_cons (dNm 2 sc.nd) (dgs_cons (dNm 3 sc.nd) dgs_nil))) (dss_one (ds_if (dNeT (dLenE T.n_len (da_cons (dV 3) da_nil)) (dLenE T.n_len (da_cons (dIxE (dV 0) de_int) da_nil)) hu) (dss_one ds_bad) dss_nil)))
    (dss_one (ds_if (dNeT (dLenE T.n_len (da_cons (dV 1) da_nil)) (dLenE T.n_len (da_cons (dV 0) da_nil)) hu) (dss_one ds_bad) dss_nil)))
theorem sc_subtract_multiple : FnScope ["row", "other", "quantity", "one", "two"] ["row", "other", "quantity"] (defScope s_subtract_multiple) := scM
theorem ok_subtract_multiple (T : Txt K mg cm tb) (G_multiply : C_multiply P w K mg base cm tb) (G_subtract : C_subtract P w K mg base cm tb) : C_subtract_multiple P w K mg base cm tb := by
  obtain ⟨fd, F⟩ := T.D_subtract_multiple.F
  have sc := sc_subtract_multiple
  refine CalD.mk' (fn_spD F sc b_subtract_multiple (k := 6) (fun cdv A outer s H E A0 hr => ?_)) F
  obtain ⟨hu, tk, hp⟩ := pre3 P w K mg base outer H E sc hr
  exact (dss_one (ds_ret [] (by exact de_ofF (dLcE (own := [("one", 3), ("two", 4)]) (vs := [3, 4]) sc.nd (blkOk_by (own := [("one", 3), ("two", 4)]) (N := ["row", "other", "quantity", "one", "two"]) (sc := defScope s_subtract_multiple) (by decide +kernel)) (di_zip (fun h => RZ.pi_zipA rfl T.n_zip h) (da_cons (dV 0) (da_cons (dV 1) da_nil))) (by decide) (fun _ _ _ _ _ => (dg_tup (fun h => pg_tup rfl h) (dgs_cons (dNm 3 sc.nd) (dgs_cons (dNm 4 sc.nd) dgs_nil)))) (fun _ _ _ _ _ => dts_nil) (fun _ _ _ _ _ => (de_ifExp (dEqT (dV 4) (dGlob (v := .ref (He.ga K "ZERO")) k_ZERO T.g_ZERO rfl T.r_ZERO) hu) (dV 3) (dCallE (G_subtract.cal bd_subtract) (rmd hr) takes0N T.D_subtract.g T.D_subtract.k (da_cons (dV 3) (da_cons (dCallE (G_multiply.cal bd_multiply) (rmd hr) takes0N T.D_multiply.g T.D_multiply.k (da_cons (dV 2) (da_cons (dV 4) da_nil))) da_nil)))))))))
theorem sc_scaled : FnScope ["row", "quantity", "one"] ["row", "quantity"] (defScope s_scaled) := scM
theorem ok_scaled (T : Txt K mg cm tb) (G_divide : C_divide P w K mg base cm tb) : C_scaled P w K mg base cm tb := by
  obtain ⟨fd, F⟩ := T.D_scaled.F
  have sc := sc_scaled
  refine CalD.mk' (fn_spD F sc b_scaled (k := 6) (fun cdv A outer s H E A0 hr => ?_)) F
  obtain ⟨hu, tk, hp⟩ := pre3 P w K mg base outer H E sc hr
  exact (dss_one (ds_ret [] (by exact de_ofF (dLcE (own := [("one", 2)]) (vs := [2]) sc.nd (blkOk_by (own := [("one", 2)]) (N := ["row", "quantity", "one"]) (sc := defScope s_scaled) (by decide +kernel)) (di_seq (dV 0)) (by decide) (fun _ _ _ _ _ => (dNm 2 sc.nd)) (fun _ _ _ _ _ => dts_nil) (fun _ _ _ _ _ => (de_ifExp (dEqT (dV 2) (dGlob (v := .ref (He.ga K "ZERO")) k_ZERO T.g_ZERO rfl T.r_ZERO) hu) (dV 2) (dCallE (G_divide.cal bd_divide) (rmd hr) takes0N T.D_divide.g T.D_divide.k (da_cons (dV 2) (da_cons (dV 1) da_nil)))))))))
theorem sc_pivot : FnScope ["lines", "pos", "spot", "here", "result", "k", "line"] ["lines", "pos", "spot"] (defScope s_pivot) := scM
theorem ok_pivot (T : Txt K mg cm tb) (G_scaled : C_scaled P w K mg base cm tb) (G_subtract_multiple : C_subtract_multiple P w K mg base cm tb) : C_pivot P w K mg base cm tb := by
  obtain ⟨fd, F⟩ := T.D_pivot.F
  have sc := sc_pivot
  refine CalD.mk' (fn_spF F sc b_pivot (k := 8) (fun cdv A outer s H E A0 hr => ?_)) F
  obtain ⟨hu, tk, hp⟩ := pre3 P w K mg base outer H E sc hr
  exact (dsfs_cons (dsf_of (ds_set (i := 3) (fun h => ps_sT sc.nd h) (dCallE (G_scaled.cal bd_scaled) (rmd hr) tk T.D_scaled.g T.D_scaled.k (da_cons (dIxE (dV 0) (dV 1)) (da_cons (dIxE (dIxE (dV 0) (dV 1)) (dV 2)) da_nil)))))
    (dsfs_cons (dsf_of (ds_setF (i := 4) (fun h => ps_sT sc.nd h) (df_lst (fun h => pe_lst h) da_nil)))
    (dsfs_cons (dsf_of (ds_for (fun h1 h2 h3 => ps_for hp rfl h1 h2 h3) (di_enum (fun h => pi_enumA rfl T.n_enumerate h) (da_cons (dV 0) da_nil)) (dg_tup (fun h => pg_tup rfl h) (dgs_cons (dNm 5 sc.nd) (dgs_cons (dNm 6 sc.nd) dgs_nil))) (dss_one (ds_if (dEqT (dV 5) (dV 1) hu) (dss_one (ds_app (i := 4) (fun h => ps_expr (pe_bm PySem.F.plainAttrs_list PySem.F.slot_list_append PySem.F.type_list_append mt_append (pv 4) (pa_cons h pa_nil))) (dV 3))) (dss_one (ds_app (i := 4) (fun h => ps_expr (pe_bm PySem.F.plainAttrs_list PySem.F.slot_list_append PySem.F.type_list_append mt_append (pv 4) (pa_cons h pa_nil))) (de_ifExp (dEqT (dIxE (dV 6) (dV 2)) (dGlob (v := .ref (He.ga K "ZERO")) k_ZERO T.g_ZERO rfl T.r_ZERO) hu) (dV 6) (dCallE (G_subtract_multiple.cal bd_subtract_multiple) (rmd hr) tk T.D_subtract_multiple.g T.D_subtract_multiple.k (da_cons (dV 6) (da_cons (dV 3) (da_cons (dIxE (dV 6) (dV 2)) da_nil)))))))))))
    (dsfs_one (dsf_retO (i := 4) (pv 4))))))
theorem sc_unit_row : FnScope ["quantity", "pos", "k"] ["quantity", "pos"] (defScope s_unit_row) := scM
theorem ok_unit_row (T : Txt K mg cm tb) : C_unit_row P w K mg base cm tb := by
  obtain ⟨fd, F⟩ := T.D_unit_row.F
  have sc := sc_unit_row
  refine CalD.mk' (fn_spD F sc b_unit_row (k := 0) (fun cdv A outer s H E A0 hr => ?_)) F
  obtain ⟨hu, tk, hp⟩ := pre3 P w K mg base outer H E sc hr
  exact (dss_one (ds_ret [] (by exact de_ofF (dLcE (own := [("k", 2)]) (vs := [2]) sc.nd (blkOk_by (own := [("k", 2)]) (N := ["quantity", "pos", "k"]) (sc := defScope s_unit_row) (by decide +kernel)) (di_range1 rfl T.n_range (da_cons (dV 0) da_nil) (by rfl) alen1) (by decide) (fun _ _ _ _ _ => (dNm 2 sc.nd)) (fun _ _ _ _ _ => dts_nil) (fun _ _ _ _ _ => (de_ifExp (dEqT (dV 2) (dV 1) hu) (dGlob (v := .ref (He.ga K "ONE")) k_ONE T.g_ONE rfl T.r_ONE) (dGlob (v := .ref (He.ga K "ZERO")) k_ZERO T.g_ZERO rfl T.r_ZERO)))))))
theorem sc_solve_linear : FnScope ["rows", "targets", "quantity", "lines", "pos", "row", "target", "homes", "spot", "line", "result", "used", "free", "home", "place"] ["rows", "targets"] (defScope s_solve_linear) := scM
theorem ok_solve_linear (T : Txt K mg cm tb) (G_check_shape : C_check_shape P w K mg base cm tb) (G_pivot : C_pivot P w K mg base cm tb) (G_unit_row : C_unit_row P w K mg base cm tb) : C_solve_linear P w K mg base cm tb := by
  obtain ⟨fd, F⟩ := T.D_solve_linear.F
  have sc := sc_solve_linear
  refine CalD.mk' (fn_spT F sc b_solve_linear (k := 10) (fun cdv A outer s H E A0 hr => ?_)) F
  obtain ⟨hu, tk, hp⟩ := pre3 P w K mg base outer H E sc hr
  exact (dsrs_cons (dsr_of (ds_expr (dCallE (G_check_shape.cal bd_check_shape) (rmd hr) tk T.D_check_shape.g T.D_check_shape.k (da_cons (dV 0) (da_cons (dV 1) da_nil)))))
    (dsrs_cons (dsr_of (ds_set (i := 2) (fun h => ps_sT sc.nd h) (de_ifExp (dGtT (dLenE T.n_len (da_cons (dV 0) da_nil)) de_int) (dLenE T.n_len (da_cons (dIxE (dV 0) de_int) da_nil)) de_int)))
    (dsrs_cons (dsr_of (ds_setF (i := 3) (fun h => ps_sT sc.nd h) (df_lst (fun h => pe_lst h) da_nil)))
    (dsrs_cons (dsr_of (ds_for (fun h1 h2 h3 => ps_for hp rfl h1 h2 h3) (di_enumzip (fun h => pi_enumzip rfl T.n_zip rfl T.n_enumerate h) (da_cons (dV 0) (da_cons (dV 1) da_nil))) (dg_tup (fun h => pg_tup rfl h) (dgs_cons (dNm 4 sc.nd) (dgs_cons (dg_tup (fun h => pg_tup rfl h) (dgs_cons (dNm 5 sc.nd) (dgs_cons (dNm 6 sc.nd) dgs_nil))) dgs_nil))) (dss_one (ds_app (i := 3) (fun h => ps_expr (pe_bm PySem.F.plainAttrs_list PySem.F.slot_list_append PySem.F.type_list_append mt_append (pv 3) (pa_cons h pa_nil))) (dAddE (dAddE (dListE T.n_list (da_cons (dV 5) da_nil)) (de_ofF (df_lst (fun h => pe_lst h) (da_cons (dV 6) da_nil)))) (dCallE (G_unit_row.cal bd_unit_row) (rmd hr) tk T.D_unit_row.g T.D_unit_row.k (da_cons (dLenE T.n_len (da_cons (dV 0) da_nil)) (da_cons (dV 4) da_nil))))))))
    (dsrs_cons (dsr_of (ds_frz [3] (ds_setF (i := 7) (fun h => ps_sT sc.nd h) (df_lst (fun h => pe_lst h) da_nil))))
    (dsrs_cons (dsr_of (ds_for (fun h1 h2 h3 => ps_for hp rfl h1 h2 h3) (di_range1 rfl T.n_range (da_cons (dV 2) da_nil) (by rfl) alen1) (dNm 8 sc.nd) (dss_cons (ds_set (i := 11) (fun h => ps_sT sc.nd h) (by exact de_ofF (df_bor [7] (dLcE (own := [("home", 13), ("place", 14)]) (vs := [13, 14]) sc.nd (blkOk_by (own := [("home", 13), ("place", 14)]) (N := ["rows", "targets", "quantity", "lines", "pos", "row", "target", "homes", "spot", "line", "result", "used", "free", "home", "place"]) (sc := defScope s_solve_linear) (by decide +kernel)) (di_seq (dV 7)) (by decide) (fun _ _ _ _ _ => (dg_tup (fun h => pg_tup rfl h) (dgs_cons (dNm 13 sc.nd) (dgs_cons (dNm 14 sc.nd) dgs_nil)))) (fun _ _ _ _ _ => dts_nil) (fun _ _ _ _ _ => (dV 13))))))
    (dss_cons (dSetLc (i := 12) (own := [("pos", 4), ("line", 9)]) (vs := [4, 9]) sc.nd (blkOk_by (own := [("pos", 4), ("line", 9)]) (N := ["rows", "targets", "quantity", "lines", "pos", "row", "target", "homes", "spot", "line", "result", "used", "free", "home", "place"]) (sc := defScope s_solve_linear) (by decide +kernel)) (di_enum (fun h => pi_enumA rfl T.n_enumerate h) (da_cons (dV 3) da_nil)) (by decide) (fun _ _ _ _ _ => (dg_tup (fun h => pg_tup rfl h) (dgs_cons (dNm 4 sc.nd) (dgs_cons (dNm 9 sc.nd) dgs_nil)))) (fun _ _ _ _ _ => (dts_one (DW.pt (dw_and (dNotInT (dV 4) (dV 11) hu) (dw_and1 (dNeT (dIxE (dV 9) (dV 8)) (dGlob (v := .ref (He.ga K "ZERO")) k_ZERO T.g_ZERO rfl T.r_ZERO) hu)))))) (fun _ _ _ _ _ => (dV 4)))
    (dss_one (ds_if (dNeT (dV 12) (de_ofF (df_lst (fun h => pe_lst h) da_nil)) hu) (dss_cons (ds_set (i := 3) (fun h => ps_sT sc.nd h) (dCallE ((G_pivot.ofF ol_pivot).cal bd_pivot) (rmd hr) tk T.D_pivot.g T.D_pivot.k (da_cons (dV 3) (da_cons (dIxE (dV 12) de_int) (da_cons (dV 8) da_nil)))))
    (dss_one (ds_app (i := 7) (fun h => ps_expr (pe_bm PySem.F.plainAttrs_list PySem.F.slot_list_append PySem.F.type_list_append mt_append (pv 7) (pa_cons h pa_nil))) (dTupE (da_cons (dIxE (dV 12) de_int) (da_cons (dV 8) da_nil)))))) dss_nil))))))
    (dsrs_cons (dsr_for (fun h1 h2 h3 => ps_for hp rfl h1 h2 h3) (di_seq (dV 3)) (dNm 9 sc.nd) (dsrs_one (dsr_if (DW.pt (dw_and (dNeT (dIxE (dV 9) (dV 2)) (dGlob (v := .ref (He.ga K "ZERO")) k_ZERO T.g_ZERO rfl T.r_ZERO) hu) (dw_and1 (dEqT (dSlE (dV 9) dp_no (dp_at (dV 2))) (dMulE (de_ofF (df_lst (fun h => pe_lst h) (da_cons (dGlob (v := .ref (He.ga K "ZERO")) k_ZERO T.g_ZERO rfl T.r_ZERO) da_nil))) (dV 2)) hu)))) (dsrs_one (dsr_retCF (fun h1 h2 => pe_tup (pa_cons h1 (pa_cons h2 pa_nil))) pe_str (df_sl (dV 9) (dp_at (dAddE (dV 2) de_int)) dp_no))) dsrs_nil)))
    (dsrs_cons (dsr_of (ds_frz [7] (ds_setF (i := 10) (fun h => ps_sT sc.nd h) (df_repL (de_ofF (df_lst (fun h => pe_lst h) (da_cons (dGlob (v := .ref (He.ga K "ZERO")) k_ZERO T.g_ZERO rfl T.r_ZERO) da_nil))) (dV 2)))))
    (dsrs_cons (dsr_of (ds_for (fun h1 h2 h3 => ps_for hp rfl h1 h2 h3) (di_seq (dV 7)) (dg_tup (fun h => pg_tup rfl h) (dgs_cons (dNm 4 sc.nd) (dgs_cons (dNm 8 sc.nd) dgs_nil))) (dss_one (ds_setI (i := 10) (fun h hk => ps_asg h (pg_sub (pv 10) hk set_list)) (dIxE (dIxE (dV 3) (dV 4)) (dV 2)) (dV 8)))))
    (dsrs_one (dsr_retCO (j := 10) (fun h1 h2 => pe_tup (pa_cons h1 (pa_cons h2 pa_nil))) pe_str (pv 10))))))))))))
theorem sc__law_source : FnScope ["_law_script", "_law_knot", "_law_cell"] ["_law_script"] (defScope s__law_source) := scM
theorem ok__law_source (T : Txt K mg cm tb) : Cal P w K mg base 1 (He.ga K "_law_source") ["_law_script"] (spSrc K) := by
  obtain ⟨fd, F⟩ := T.D__law_source.F
  have sc := sc__law_source
  refine Cal.mk' (F.ok sc (k := 0) (fun vs H Q E ⟨a, ns, h, _⟩ => by rw [h]; rfl) fun cdv A outer s H vs Q E hr h => ?_) (bd__law_source fd F)
  obtain ⟨b, ns, rfl, hS, hl, hq⟩ := h
  have cut : cutV (ns.map V.int) none (some 63) = ns.map V.int := cut63 hl
  refine ⟨_, pss_cons (ps_set (i := 1) sc.nd rfl (by first | exact Or.inl rfl | exact Or.inr rfl) (pe_op op_add pe_int (pe_op op_mul pe_int (pe_callB call_len_seq rfl T.n_len PySem.boot_len (pa_cons (pe_slice sl_list (pv 0) po_none (po_some pe_int)) pa_nil)))))
    (pss_cons (ps_for (passes_of rfl) rfl (pi_list (pe_slice sl_list (pv 0) po_none (po_some pe_int))) (pg_name (i := 2) sc.nd rfl (by first | exact Or.inl rfl | exact Or.inr rfl))
      (pss_one (ps_set (i := 1) sc.nd rfl (by first | exact Or.inl rfl | exact Or.inr rfl) (pe_op op_mod (pe_op op_add (pe_op op_add (pe_op op_mul (pv 1) pe_int) (pe_op op_mod (pv 2) pe_int)) pe_int) pe_int))))
    (pss_one (ps_ret (pe_lst (pa_cons (pe_callTy call_list_of rfl T.n_list (by decide +kernel) (pa_cons (pe_slice sl_list (pv 0) po_none (po_some pe_int)) pa_nil)) (pa_cons pe_int (pa_cons pe_int (pa_cons (pv 1) pa_nil)))))))), ?_⟩
  have s1 : ∀ {H1 : Hp} {p : Addr} {o : HO}, Same H H1 → H1 p = none → Same H (upd H1 p o) := fun s n a o z => by rw [upd_ne (ne_of_none (s a o z) n)]; exact s a o z
  refine ⟨.ref b, rfl, 63, rfl, b, _, rfl, hS, fun p1 np1 => ⟨p1, _, rfl, .inl (SqL.of upd_same), 67, _, rfl, rfl, .inl ⟨by decide, by decide⟩, 9472, _, rfl, rfl, ?_⟩⟩
  rw [cut]
  have e1 := s1 (o := .lst (ns.map V.int)) (Same.refl H) np1
  refine ⟨.ref b, rfl, 63, rfl, b, _, rfl, e1.seq hS, fun p2 np2 => ⟨p2, rfl, ⟨_, SqL.of upd_same⟩, ?_⟩⟩
  rw [cut]
  refine for_list (K := K) (a := p2) (xs := ns.map V.int) (fun i σ H2 => ∃ (z : Int) (v : Option V), σ = [some (.ref b), some (.int z), v] ∧ Same H H2 ∧ H2 p2 = some (.lst (ns.map V.int)) ∧ 0 ≤ z ∧ z < 2147483563) ⟨_, none, rfl, s1 e1 np2, upd_same, by omega, by rw [List.length_map]; omega⟩ (fun i σ H2 _ ⟨_, _, _, _, h, _⟩ => SqL.of h) ?_ ?_
  · rintro i y σ H2 hi ⟨z, v, rfl, s2, h2, z0, z1⟩
    obtain ⟨q, rfl⟩ : ∃ q, y = V.int q := by
      rw [List.getElem?_map] at hi
      cases e : ns[i]? with
      | none => rw [e] at hi; cases hi
      | some q => rw [e] at hi; exact ⟨q, (Option.some.inj hi).symm⟩
    refine ⟨.int z, rfl, z, 40014, rfl, rfl, .inl ⟨by omega, by omega⟩, .int q, rfl, q, 2147483563, rfl, rfl, (by decide : (0 : Int) < 2147483563), _, _, rfl, rfl, _, _, rfl, rfl, _, _, rfl, rfl, (by decide : (0 : Int) < 2147483563), ?_⟩
    exact ⟨_, _, rfl, s2, h2, Int.emod_nonneg _ (by decide), Int.emod_lt_of_pos _ (by decide)⟩
  · rintro σ H2 ⟨z, v, rfl, s2, h2, z0, z1⟩
    refine ⟨.ref b, rfl, 63, rfl, b, _, rfl, s2.seq hS, fun p3 np3 => ⟨p3, _, rfl, .inl (SqL.of upd_same), fun c nc => ⟨.int z, rfl, (by show 4 ≤ sizeLine; decide), fun r nr => ?_⟩⟩⟩
    rw [cut] at nc nr ⊢
    have e3 := s1 (o := .lst (ns.map V.int)) s2 np3
    have e4 := s1 (o := .lst (ns.map V.int)) e3 nc
    have ncr : c ≠ r := ne_of_none upd_same nr
    exact hq _ r c ⟨ns, 0, 0, z, [], []⟩ (s1 e4 nr) (e4.free nr) (e3.free nc) ⟨ncr, upd_same, by rw [upd_ne ncr, upd_same], Int.le_refl _, Int.le_refl _, z0, z1, hl⟩
theorem sc__law_draw : FnScope ["_law_rng", "_law_quantity", "_law_seed", "_law_cell", "_law_got"] ["_law_rng", "_law_quantity"] (defScope s__law_draw) := scM
theorem ok__law_draw (T : Txt K mg cm tb) : C__law_draw P w K mg base cm tb := by
  obtain ⟨fd, F⟩ := T.D__law_draw.F
  have sc := sc__law_draw
  refine CalD.mk' (fn_spG F sc b__law_draw (k := 0) (fun cdv A outer s H E A0 r c hr => ?_)) F
  obtain ⟨hu, tk, hp⟩ := pre3 P w K mg base outer H E sc hr
  exact (dss_cons (ds_if (DW.pt (dw_and (dEqT (de_rgI (pv 0)) de_int hu) (dw_and1 (dLtT (de_rgI (pv 0)) (de_rgLen (pv 0) (fun h => pe_callB call_len rfl T.n_len bb_len h)))))) (dss_cons (ds_set (i := 3) (fun h => ps_sT sc.nd h) (de_rgCell (pv 0) (pv 0)))
    (dss_cons (ds_rgSet (i := 0) (fun h hk => ps_asg h (pg_sub (pv 0) hk set_list)) pe_int (dAddE (de_rgI (pv 0)) de_int))
    (dss_one (ds_if (dGeT (dV 3) (dPowE de_int de_int)) (dss_one (ds_rgSet (i := 0) (fun h hk => ps_asg h (pg_sub (pv 0) hk set_list)) pe_int (dV 3))) (dss_one (ds_rgSet (i := 0) (fun h hk => ps_asg h (pg_sub (pv 0) hk set_list)) pe_int (dModE (dAddE (dAddE (dMulE (de_rgI (pv 0)) de_int) (dMulE (dModE (dV 3) de_int) de_int)) (de_rgI (pv 0))) de_int))))))) dss_nil)
    (dss_cons (ds_if (dGtT (de_rgI (pv 0)) de_int) (dss_cons (ds_set (i := 4) (fun h => ps_sT sc.nd h) (dModE (de_rgI (pv 0)) (dV 1)))
    (dss_cons (ds_rgSet (i := 0) (fun h hk => ps_asg h (pg_sub (pv 0) hk set_list)) pe_int (dFDivE (de_rgI (pv 0)) (dV 1)))
    (dss_one (ds_ret [] (dV 4))))) dss_nil)
    (dss_cons (ds_set (i := 2) (fun h => ps_sT sc.nd h) (de_rgI (pv 0)))
    (dss_cons (ds_rgSet (i := 0) (fun h hk => ps_asg h (pg_sub (pv 0) hk set_list)) pe_int (dModE (dAddE (dAddE (dMulE (dV 2) (dV 2)) (dMulE (dV 2) de_int)) de_int) de_int))
    (dss_one (ds_ret [] (dModE (dAddE (dFDivE (de_rgI (pv 0)) de_int) (dMulE (dModE (de_rgI (pv 0)) de_int) de_int)) (dV 1))))))))
theorem sc__law_choice : FnScope ["_law_rng", "_law_some"] ["_law_rng", "_law_some"] (defScope s__law_choice) := scM
theorem ok__law_choice (T : Txt K mg cm tb) (G__law_draw : C__law_draw P w K mg base cm tb) : C__law_choice P w K mg base cm tb := by
  obtain ⟨fd, F⟩ := T.D__law_choice.F
  have sc := sc__law_choice
  refine CalD.mk' (fn_spG F sc b__law_choice (k := 2) (fun cdv A outer s H E A0 r c hr => ?_)) F
  obtain ⟨hu, tk, hp⟩ := pre3 P w K mg base outer H E sc hr
  exact (dss_one (ds_ret [] (dIxE (dV 1) (dCallG (i := 0) (G__law_draw.cal bd__law_draw) (rmd hr) T.D__law_draw.g T.D__law_draw.k (pv 0) (da_cons (dLenE T.n_len (da_cons (dV 1) da_nil)) da_nil)))))
theorem sc__law_equal : FnScope ["_law_result", "_law_expected", "_law_one", "_law_other"] ["_law_result", "_law_expected"] (defScope s__law_equal) := scM
theorem rec__law_equal (T : Txt K mg cm tb) (n : Nat) : CalD P w K mg base (1 + n) "_law_equal" s__law_equal (d__law_equal.dvs K) (d__law_equal.kws K) (He.ga K "_law_equal") ["_law_result", "_law_expected"] (spD ⟨K, cm, tb⟩ (m__law_equal n)) := by
  obtain ⟨fd__law_equal, F__law_equal⟩ := T.D__law_equal.F
  induction n with
  | zero => exact CalD.mk' (fn_stuck fun _ => by rw [m__law_equal]) F__law_equal
  | succ n IH =>
    have IH__law_equal := IH
    have sc := sc__law_equal
    rw [m__law_equal]
    refine CalD.mk' (fn_spD F__law_equal sc (b__law_equal (m__law_equal n)) (k := 1 + n) (fun cdv A outer s H E A0 hr => ?_)) F__law_equal
    obtain ⟨hu, tk, hp⟩ := pre3 P w K mg base outer H E sc hr
    exact (dss_cons (ds_if (dIsNT (dV 1) de_non) (dss_one (ds_ret [] (dIsNE (dV 0) de_non))) dss_nil)
    (dss_cons (ds_if (DW.pt (dw_or (dt_val (dIsiE .tList T.n_isinstance T.n_list (dV 1))) (dw_or1 (dt_val (dIsiE .tTup T.n_isinstance T.n_tuple (dV 1)))))) (dss_cons (ds_if (DW.pt (dw_or (dNeT (dIsiE .tList T.n_isinstance T.n_list (dV 0)) (dIsiE .tList T.n_isinstance T.n_list (dV 1)) hu) (dw_or1 (dNeT (dIsiE .tTup T.n_isinstance T.n_tuple (dV 0)) (dIsiE .tTup T.n_isinstance T.n_tuple (dV 1)) hu)))) (dss_one (ds_ret [] de_bl)) dss_nil)
    (dss_one (ds_ret [] (de_and (dEqE (dLenE T.n_len (da_cons (dV 0) da_nil)) (dLenE T.n_len (da_cons (dV 1) da_nil)) hu) (de_one (dAllE T.n_all (da_cons (by exact de_ofF (dLcE (own := [("_law_one", 2), ("_law_other", 3)]) (vs := [2, 3]) sc.nd (blkOk_by (own := [("_law_one", 2), ("_law_other", 3)]) (N := ["_law_result", "_law_expected", "_law_one", "_law_other"]) (sc := defScope s__law_equal) (by decide +kernel)) (di_zip (fun h => RZ.pi_zipA rfl T.n_zip h) (da_cons (dV 0) (da_cons (dV 1) da_nil))) (by decide) (fun _ _ _ _ _ => (dg_tup (fun h => pg_tup rfl h) (dgs_cons (dNm 2 sc.nd) (dgs_cons (dNm 3 sc.nd) dgs_nil)))) (fun _ _ _ _ _ => dts_nil) (fun _ _ _ _ _ => (dCallE (IH__law_equal.cal bd__law_equal) (rmo hr) takes0N T.D__law_equal.g T.D__law_equal.k (da_cons (dV 2) (da_cons (dV 3) da_nil)))))) da_nil))))))) dss_nil)
    (dss_cons (ds_if (DW.pt (dw_or (dNeT (dIsiE .tBool T.n_isinstance T.n_bool (dV 1)) (dIsiE .tBool T.n_isinstance T.n_bool (dV 0)) hu) (dw_or1 (dNeT (dIsiE .tInt T.n_isinstance T.n_int (dV 1)) (dIsiE .tInt T.n_isinstance T.n_int (dV 0)) hu)))) (dss_one (ds_ret [] de_bl)) dss_nil)
    (dss_one (ds_ret [] (de_and (dEqE (dIsiE .tStr T.n_isinstance T.n_str (dV 0)) (dIsiE .tStr T.n_isinstance T.n_str (dV 1)) hu) (de_one (dEqE (dV 0) (dV 1) hu))))))))
theorem ok__law_equal (T : Txt K mg cm tb) : C__law_equal P w K mg base cm tb := (rec__law_equal T 12)
theorem sc__law_reduce : FnScope ["_law_num", "_law_den", "_law_one", "_law_other", "_law_sign"] ["_law_num", "_law_den"] (defScope s__law_reduce) := scM
theorem ok__law_reduce (T : Txt K mg cm tb) : C__law_reduce P w K mg base cm tb := by
  obtain ⟨fd, F⟩ := T.D__law_reduce.F
  have sc := sc__law_reduce
  refine CalD.mk' (fn_spD F sc b__law_reduce (k := 0) (fun cdv A outer s H E A0 hr => ?_)) F
  obtain ⟨hu, tk, hp⟩ := pre3 P w K mg base outer H E sc hr
  exact (dss_cons (ds_par (fun h => ps_par (i := 2) (j := 3) rfl sc.nd rfl rfl (by decide) rfl rfl h (by rfl)) (da_cons (dAbsE T.n_abs (da_cons (dV 0) da_nil)) (da_cons (dAbsE T.n_abs (da_cons (dV 1) da_nil)) da_nil)))
    (dss_cons (ds_while (fun e => fuGcd2 e) (fun h1 h2 => ps_while hp h1 h2) (dNeT (dV 3) de_int hu) (dss_one (ds_par (fun h => ps_par (i := 2) (j := 3) rfl sc.nd rfl rfl (by decide) rfl rfl h (by rfl)) (da_cons (dV 3) (da_cons (dModE (dV 2) (dV 3)) da_nil)))))
    (dss_cons (ds_set (i := 4) (fun h => ps_sT sc.nd h) (de_ifExp (dGtT (dV 1) de_int) de_int (dNegE de_int)))
    (dss_one (ds_ret [] (dTupE (da_cons (dFDivE (dMulE (dV 4) (dV 0)) (dV 2)) (da_cons (dFDivE (dMulE (dV 4) (dV 1)) (dV 2)) da_nil))))))))
theorem sc__law_add : FnScope ["_law_one", "_law_other"] ["_law_one", "_law_other"] (defScope s__law_add) := scM
theorem ok__law_add (T : Txt K mg cm tb) (G__law_reduce : C__law_reduce P w K mg base cm tb) : C__law_add P w K mg base cm tb := by
  obtain ⟨fd, F⟩ := T.D__law_add.F
  have sc := sc__law_add
  refine CalD.mk' (fn_spD F sc b__law_add (k := 2) (fun cdv A outer s H E A0 hr => ?_)) F
  obtain ⟨hu, tk, hp⟩ := pre3 P w K mg base outer H E sc hr
  exact (dss_one (ds_ret [] (dCallE (G__law_reduce.cal bd__law_reduce) (rmd hr) tk T.D__law_reduce.g T.D__law_reduce.k (da_cons (dAddE (dMulE (dIxE (dV 0) de_int) (dIxE (dV 1) de_int)) (dMulE (dIxE (dV 1) de_int) (dIxE (dV 0) de_int))) (da_cons (dMulE (dIxE (dV 0) de_int) (dIxE (dV 1) de_int)) da_nil)))))
theorem sc__law_multiply : FnScope ["_law_one", "_law_other"] ["_law_one", "_law_other"] (defScope s__law_multiply) := scM
theorem ok__law_multiply (T : Txt K mg cm tb) (G__law_reduce : C__law_reduce P w K mg base cm tb) : C__law_multiply P w K mg base cm tb := by
  obtain ⟨fd, F⟩ := T.D__law_multiply.F
  have sc := sc__law_multiply
  refine CalD.mk' (fn_spD F sc b__law_multiply (k := 2) (fun cdv A outer s H E A0 hr => ?_)) F
  obtain ⟨hu, tk, hp⟩ := pre3 P w K mg base outer H E sc hr
  exact (dss_one (ds_ret [] (dCallE (G__law_reduce.cal bd__law_reduce) (rmd hr) tk T.D__law_reduce.g T.D__law_reduce.k (da_cons (dMulE (dIxE (dV 0) de_int) (dIxE (dV 1) de_int)) (da_cons (dMulE (dIxE (dV 0) de_int) (dIxE (dV 1) de_int)) da_nil)))))
theorem sc__law_sum : FnScope ["_law_some", "_law_result", "_law_one"] ["_law_some"] (defScope s__law_sum) := scM
theorem ok__law_sum (T : Txt K mg cm tb) (G__law_add : C__law_add P w K mg base cm tb) : C__law_sum P w K mg base cm tb := by
  obtain ⟨fd, F⟩ := T.D__law_sum.F
  have sc := sc__law_sum
  refine CalD.mk' (fn_spD F sc b__law_sum (k := 4) (fun cdv A outer s H E A0 hr => ?_)) F
  obtain ⟨hu, tk, hp⟩ := pre3 P w K mg base outer H E sc hr
  exact (dss_cons (ds_set (i := 1) (fun h => ps_sT sc.nd h) (dTupE (da_cons de_int (da_cons de_int da_nil))))
    (dss_cons (ds_for (fun h1 h2 h3 => ps_for hp rfl h1 h2 h3) (di_seq (dV 0)) (dNm 2 sc.nd) (dss_one (ds_set (i := 1) (fun h => ps_sT sc.nd h) (dCallE (G__law_add.cal bd__law_add) (rmd hr) tk T.D__law_add.g T.D__law_add.k (da_cons (dV 1) (da_cons (dV 2) da_nil))))))
    (dss_one (ds_ret [] (dV 1)))))
theorem sc__law_small : FnScope ["_law_rng"] ["_law_rng"] (defScope s__law_small) := scM
theorem ok__law_small (T : Txt K mg cm tb) (G__law_choice : C__law_choice P w K mg base cm tb) (G__law_draw : C__law_draw P w K mg base cm tb) (G__law_reduce : C__law_reduce P w K mg base cm tb) : C__law_small P w K mg base cm tb := by
  obtain ⟨fd, F⟩ := T.D__law_small.F
  have sc := sc__law_small
  refine CalD.mk' (fn_spG F sc b__law_small (k := 4) (fun cdv A outer s H E A0 r c hr => ?_)) F
  obtain ⟨hu, tk, hp⟩ := pre3 P w K mg base outer H E sc hr
  exact (dss_one (ds_ret [] (dCallE (G__law_reduce.cal bd__law_reduce) (rmd hr) tk T.D__law_reduce.g T.D__law_reduce.k (da_cons (dSubE (dCallG (i := 0) (G__law_draw.cal bd__law_draw) (rmd hr) T.D__law_draw.g T.D__law_draw.k (pv 0) (da_cons de_int da_nil)) de_int) (da_cons (dCallG (i := 0) (G__law_choice.cal bd__law_choice) (rmd hr) T.D__law_choice.g T.D__law_choice.k (pv 0) (da_cons (de_ofF (df_lst (fun h => pe_lst h) (da_cons de_int (da_cons de_int (da_cons de_int (da_cons de_int (da_cons de_int (da_cons de_int da_nil)))))))) da_nil)) da_nil)))))
theorem sc__law_linear_case : FnScope ["_law_rng", "_law_quantity", "_law_wide", "_law_my_rows", "_law_met", "_law_my_targets", "_law_amount", "_law_j", "_law_k", "_law_row", "_law_x", "_law_y"] ["_law_rng"] (defScope s__law_linear_case) := scM
theorem ok__law_linear_case (T : Txt K mg cm tb) (G__law_add : C__law_add P w K mg base cm tb) (G__law_choice : C__law_choice P w K mg base cm tb) (G__law_draw : C__law_draw P w K mg base cm tb) (G__law_multiply : C__law_multiply P w K mg base cm tb) (G__law_small : C__law_small P w K mg base cm tb) (G__law_sum : C__law_sum P w K mg base cm tb) : C__law_linear_case P w K mg base cm tb := by
  obtain ⟨fd, F⟩ := T.D__law_linear_case.F
  have sc := sc__law_linear_case
  refine CalD.mk' (fn_spG F sc b__law_linear_case (k := 6) (fun cdv A outer s H E A0 r c hr => ?_)) F
  obtain ⟨hu, tk, hp⟩ := pre3 P w K mg base outer H E sc hr
  exact (dss_cons (ds_asgG (fun h hg => ps_asg h hg) (by exact (dTupE (da_cons (dAddE de_int (dCallG (i := 0) (G__law_draw.cal bd__law_draw) (rmd hr) T.D__law_draw.g T.D__law_draw.k (pv 0) (da_cons de_int da_nil))) (da_cons (dAddE de_int (dCallG (i := 0) (G__law_draw.cal bd__law_draw) (rmd hr) T.D__law_draw.g T.D__law_draw.k (pv 0) (da_cons de_int da_nil))) da_nil)))) (dg_tup (fun h => pg_tup rfl h) (dgs_cons (dNm 1 sc.nd) (dgs_cons (dNm 2 sc.nd) dgs_nil))))
    (dss_cons (dSetLcF (i := 3) (own := [("_law_j", 7)]) (vs := [7]) sc.nd (blkOk_by (own := [("_law_j", 7)]) (N := ["_law_rng", "_law_quantity", "_law_wide", "_law_my_rows", "_law_met", "_law_my_targets", "_law_amount", "_law_j", "_law_k", "_law_row", "_law_x", "_law_y"]) (sc := defScope s__law_linear_case) (by decide +kernel)) (di_range1 rfl T.n_range (da_cons (dV 1) da_nil) (by rfl) alen1) (by decide) (fun _ _ _ _ _ => (dNm 7 sc.nd)) (fun _ _ _ _ _ => dts_nil) (fun _ _ _ _ _ => (by exact de_ofF (dLcE (own := [("_law_k", 8)]) (vs := [8]) sc.nd (blkOk_by (own := [("_law_k", 8)]) (N := ["_law_rng", "_law_quantity", "_law_wide", "_law_my_rows", "_law_met", "_law_my_targets", "_law_amount", "_law_j", "_law_k", "_law_row", "_law_x", "_law_y"]) (sc := relS _ (defScope s__law_linear_case)) (by decide +kernel)) (di_range1 rfl T.n_range (da_cons (dV 2) da_nil) (by rfl) alen1) (by decide) (fun _ _ _ _ _ => (dNm 8 sc.nd)) (fun _ _ _ _ _ => dts_nil) (fun _ _ _ _ _ => (dCallG (i := 0) (G__law_choice.cal bd__law_choice) (rmd hr) T.D__law_choice.g T.D__law_choice.k (pv 0) (da_cons (de_ofF (df_lst (fun h => pe_lst h) (da_cons (dTupE (da_cons de_int (da_cons de_int da_nil))) (da_cons (dCallG (i := 0) (G__law_small.cal bd__law_small) (rmd hr) T.D__law_small.g T.D__law_small.k (pv 0) da_nil) da_nil)))) da_nil)))))))
    (dss_cons (ds_if (DW.pt (dw_and (dGtT (dV 1) de_int) (dw_and1 (dEqT (dCallG (i := 0) (G__law_draw.cal bd__law_draw) (rmd hr) T.D__law_draw.g T.D__law_draw.k (pv 0) (da_cons de_int da_nil)) de_int hu)))) (dss_cons (ds_set (i := 6) (fun h => ps_sT sc.nd h) (dCallG (i := 0) (G__law_small.cal bd__law_small) (rmd hr) T.D__law_small.g T.D__law_small.k (pv 0) da_nil))
    (dss_one (ds_setI (i := 3) (fun h hk => ps_asg h (pg_sub (pv 3) hk set_list)) (by exact de_ofF (df_bor [3] (dLcE (own := [("_law_x", 10), ("_law_y", 11)]) (vs := [10, 11]) sc.nd (blkOk_by (own := [("_law_x", 10), ("_law_y", 11)]) (N := ["_law_rng", "_law_quantity", "_law_wide", "_law_my_rows", "_law_met", "_law_my_targets", "_law_amount", "_law_j", "_law_k", "_law_row", "_law_x", "_law_y"]) (sc := defScope s__law_linear_case) (by decide +kernel)) (di_zip (fun h => RZ.pi_zipA rfl T.n_zip h) (da_cons (dIxE (dV 3) de_int) (da_cons (dIxE (dV 3) (dSubE (dV 1) de_int)) da_nil))) (by decide) (fun _ _ _ _ _ => (dg_tup (fun h => pg_tup rfl h) (dgs_cons (dNm 10 sc.nd) (dgs_cons (dNm 11 sc.nd) dgs_nil)))) (fun _ _ _ _ _ => dts_nil) (fun _ _ _ _ _ => (dCallE (G__law_add.cal bd__law_add) (rmd hr) takes0N T.D__law_add.g T.D__law_add.k (da_cons (dV 10) (da_cons (dCallE (G__law_multiply.cal bd__law_multiply) (rmd hr) takes0N T.D__law_multiply.g T.D__law_multiply.k (da_cons (dV 6) (da_cons (dV 11) da_nil))) da_nil))))))) (dCallG (i := 0) (G__law_draw.cal bd__law_draw) (rmd hr) T.D__law_draw.g T.D__law_draw.k (pv 0) (da_cons (dV 1) da_nil))))) dss_nil)
    (dss_cons (ds_set (i := 4) (fun h => ps_sT sc.nd h) (by exact de_ofF (dLcE (own := [("_law_k", 8)]) (vs := [8]) sc.nd (blkOk_by (own := [("_law_k", 8)]) (N := ["_law_rng", "_law_quantity", "_law_wide", "_law_my_rows", "_law_met", "_law_my_targets", "_law_amount", "_law_j", "_law_k", "_law_row", "_law_x", "_law_y"]) (sc := defScope s__law_linear_case) (by decide +kernel)) (di_range1 rfl T.n_range (da_cons (dV 2) da_nil) (by rfl) alen1) (by decide) (fun _ _ _ _ _ => (dNm 8 sc.nd)) (fun _ _ _ _ _ => dts_nil) (fun _ _ _ _ _ => (dCallG (i := 0) (G__law_small.cal bd__law_small) (rmd hr) T.D__law_small.g T.D__law_small.k (pv 0) da_nil)))))
    (dss_cons (ds_frz [3] (dSetLcF (i := 5) (own := [("_law_row", 9)]) (vs := [9]) sc.nd (blkOk_by (own := [("_law_row", 9)]) (N := ["_law_rng", "_law_quantity", "_law_wide", "_law_my_rows", "_law_met", "_law_my_targets", "_law_amount", "_law_j", "_law_k", "_law_row", "_law_x", "_law_y"]) (sc := defScope s__law_linear_case) (by decide +kernel)) (di_seq (dV 3)) (by decide) (fun _ _ _ _ _ => (dNm 9 sc.nd)) (fun _ _ _ _ _ => dts_nil) (fun _ _ _ _ _ => (dCallE (G__law_sum.cal bd__law_sum) (rmd hr) takes0N T.D__law_sum.g T.D__law_sum.k (da_cons (by exact de_ofF (dLcE (own := [("_law_x", 10), ("_law_y", 11)]) (vs := [10, 11]) sc.nd (blkOk_by (own := [("_law_x", 10), ("_law_y", 11)]) (N := ["_law_rng", "_law_quantity", "_law_wide", "_law_my_rows", "_law_met", "_law_my_targets", "_law_amount", "_law_j", "_law_k", "_law_row", "_law_x", "_law_y"]) (sc := relS _ (defScope s__law_linear_case)) (by decide +kernel)) (di_zip (fun h => RZ.pi_zipA rfl T.n_zip h) (da_cons (dV 9) (da_cons (dV 4) da_nil))) (by decide) (fun _ _ _ _ _ => (dg_tup (fun h => pg_tup rfl h) (dgs_cons (dNm 10 sc.nd) (dgs_cons (dNm 11 sc.nd) dgs_nil)))) (fun _ _ _ _ _ => dts_nil) (fun _ _ _ _ _ => (dCallE (G__law_multiply.cal bd__law_multiply) (rmd hr) takes0N T.D__law_multiply.g T.D__law_multiply.k (da_cons (dV 10) (da_cons (dV 11) da_nil)))))) da_nil)))))
    (dss_cons (ds_if (dEqT (dCallG (i := 0) (G__law_draw.cal bd__law_draw) (rmd hr) T.D__law_draw.g T.D__law_draw.k (pv 0) (da_cons de_int da_nil)) de_int hu) (dss_one (ds_setI (i := 5) (fun h hk => ps_asg h (pg_sub (pv 5) hk set_list)) (dCallG (i := 0) (G__law_small.cal bd__law_small) (rmd hr) T.D__law_small.g T.D__law_small.k (pv 0) da_nil) (dCallG (i := 0) (G__law_draw.cal bd__law_draw) (rmd hr) T.D__law_draw.g T.D__law_draw.k (pv 0) (da_cons (dV 1) da_nil)))) dss_nil)
    (dss_one (ds_ret [5] (dTupE (da_cons (dV 3) (da_cons (dV 5) da_nil)))))))))))
theorem sc__law_check_solution : FnScope ["_law_my_rows", "_law_my_targets", "_law_answer", "_law_kind", "_law_some", "_law_k", "_law_row", "_law_x", "_law_y"] ["_law_my_rows", "_law_my_targets", "_law_answer"] (defScope s__law_check_solution) := scM
theorem ok__law_check_solution (T : Txt K mg cm tb) (G__law_multiply : C__law_multiply P w K mg base cm tb) (G__law_sum : C__law_sum P w K mg base cm tb) : C__law_check_solution P w K mg base cm tb := by
  obtain ⟨fd, F⟩ := T.D__law_check_solution.F
  have sc := sc__law_check_solution
  refine CalD.mk' (fn_spD F sc b__law_check_solution (k := 6) (fun cdv A outer s H E A0 hr => ?_)) F
  obtain ⟨hu, tk, hp⟩ := pre3 P w K mg base outer H E sc hr
  exact (dss_cons (ds_asgG (fun h hg => ps_asg h hg) (by exact (dV 2)) (dg_tup (fun h => pg_tup rfl h) (dgs_cons (dNm 3 sc.nd) (dgs_cons (dNm 4 sc.nd) dgs_nil))))
    (dss_cons (ds_if (dEqT (dV 3) de_str hu) (dss_cons (ds_if (dNeT (dLenE T.n_len (da_cons (dV 4) da_nil)) (dLenE T.n_len (da_cons (dIxE (dAddE (dV 0) (de_ofF (df_lst (fun h => pe_lst h) (da_cons (de_ofF (df_lst (fun h => pe_lst h) da_nil)) da_nil)))) de_int) da_nil)) hu) (dss_one (ds_ret [] de_bl)) dss_nil)
    (dss_one (ds_ret [] (dEqE (by exact de_ofF (dLcE (own := [("_law_row", 6)]) (vs := [6]) sc.nd (blkOk_by (own := [("_law_row", 6)]) (N := ["_law_my_rows", "_law_my_targets", "_law_answer", "_law_kind", "_law_some", "_law_k", "_law_row", "_law_x", "_law_y"]) (sc := defScope s__law_check_solution) (by decide +kernel)) (di_seq (dV 0)) (by decide) (fun _ _ _ _ _ => (dNm 6 sc.nd)) (fun _ _ _ _ _ => dts_nil) (fun _ _ _ _ _ => (dCallE (G__law_sum.cal bd__law_sum) (rmd hr) takes0N T.D__law_sum.g T.D__law_sum.k (da_cons (by exact de_ofF (dLcE (own := [("_law_x", 7), ("_law_y", 8)]) (vs := [7, 8]) sc.nd (blkOk_by (own := [("_law_x", 7), ("_law_y", 8)]) (N := ["_law_my_rows", "_law_my_targets", "_law_answer", "_law_kind", "_law_some", "_law_k", "_law_row", "_law_x", "_law_y"]) (sc := relS _ (defScope s__law_check_solution)) (by decide +kernel)) (di_zip (fun h => RZ.pi_zipA rfl T.n_zip h) (da_cons (dV 6) (da_cons (dV 4) da_nil))) (by decide) (fun _ _ _ _ _ => (dg_tup (fun h => pg_tup rfl h) (dgs_cons (dNm 7 sc.nd) (dgs_cons (dNm 8 sc.nd) dgs_nil)))) (fun _ _ _ _ _ => dts_nil) (fun _ _ _ _ _ => (dCallE (G__law_multiply.cal bd__law_multiply) (rmd hr) takes0N T.D__law_multiply.g T.D__law_multiply.k (da_cons (dV 7) (da_cons (dV 8) da_nil)))))) da_nil))))) (dListE T.n_list (da_cons (dV 1) da_nil)) hu)))) dss_nil)
    (dss_cons (ds_if (DW.pt (dw_or (dNeT (dV 3) de_str hu) (dw_or1 (dNeT (dLenE T.n_len (da_cons (dV 4) da_nil)) (dLenE T.n_len (da_cons (dV 0) da_nil)) hu)))) (dss_one (ds_ret [] de_bl)) dss_nil)
    (dss_cons (ds_for (fun h1 h2 h3 => ps_for hp rfl h1 h2 h3) (di_range1 rfl T.n_range (da_cons (dLenE T.n_len (da_cons (dIxE (dAddE (dV 0) (de_ofF (df_lst (fun h => pe_lst h) (da_cons (de_ofF (df_lst (fun h => pe_lst h) da_nil)) da_nil)))) de_int) da_nil)) da_nil) (by rfl) alen1) (dNm 5 sc.nd) (dss_one (ds_if (dNeT (dCallE (G__law_sum.cal bd__law_sum) (rmd hr) tk T.D__law_sum.g T.D__law_sum.k (da_cons (by exact de_ofF (dLcE (own := [("_law_x", 7), ("_law_row", 6)]) (vs := [7, 6]) sc.nd (blkOk_by (own := [("_law_x", 7), ("_law_row", 6)]) (N := ["_law_my_rows", "_law_my_targets", "_law_answer", "_law_kind", "_law_some", "_law_k", "_law_row", "_law_x", "_law_y"]) (sc := defScope s__law_check_solution) (by decide +kernel)) (di_zip (fun h => RZ.pi_zipA rfl T.n_zip h) (da_cons (dV 4) (da_cons (dV 0) da_nil))) (by decide) (fun _ _ _ _ _ => (dg_tup (fun h => pg_tup rfl h) (dgs_cons (dNm 7 sc.nd) (dgs_cons (dNm 6 sc.nd) dgs_nil)))) (fun _ _ _ _ _ => dts_nil) (fun _ _ _ _ _ => (dCallE (G__law_multiply.cal bd__law_multiply) (rmd hr) takes0N T.D__law_multiply.g T.D__law_multiply.k (da_cons (dV 7) (da_cons (dIxE (dV 6) (dV 5)) da_nil)))))) da_nil)) (dTupE (da_cons de_int (da_cons de_int da_nil))) hu) (dss_one (ds_ret [] de_bl)) dss_nil)))
    (dss_one (ds_ret [] (dNeE (dCallE (G__law_sum.cal bd__law_sum) (rmd hr) tk T.D__law_sum.g T.D__law_sum.k (da_cons (by exact de_ofF (dLcE (own := [("_law_x", 7), ("_law_y", 8)]) (vs := [7, 8]) sc.nd (blkOk_by (own := [("_law_x", 7), ("_law_y", 8)]) (N := ["_law_my_rows", "_law_my_targets", "_law_answer", "_law_kind", "_law_some", "_law_k", "_law_row", "_law_x", "_law_y"]) (sc := defScope s__law_check_solution) (by decide +kernel)) (di_zip (fun h => RZ.pi_zipA rfl T.n_zip h) (da_cons (dV 4) (da_cons (dV 1) da_nil))) (by decide) (fun _ _ _ _ _ => (dg_tup (fun h => pg_tup rfl h) (dgs_cons (dNm 7 sc.nd) (dgs_cons (dNm 8 sc.nd) dgs_nil)))) (fun _ _ _ _ _ => dts_nil) (fun _ _ _ _ _ => (dCallE (G__law_multiply.cal bd__law_multiply) (rmd hr) takes0N T.D__law_multiply.g T.D__law_multiply.k (da_cons (dV 7) (da_cons (dV 8) da_nil)))))) da_nil)) (dTupE (da_cons de_int (da_cons de_int da_nil))) hu)))))))
theorem sc_law : FnScope ["_law_script", "_law_rng", "_law_turn", "_law_my_rows", "_law_my_targets", "_law_twice", "_law_late", "_law_answer", "_law_found", "_law_argument", "_law_text", "_law_pos", "_law_k", "_law_row", "_law_x"] ["_law_script"] (defScope s_law) := scM
set_option maxHeartbeats 4000000 in
theorem ok_law (T : Txt K mg cm tb) (GS : Cal P w K mg base 1 (He.ga K "_law_source") ["_law_script"] (spSrc K)) {fd : FuncData} (G__law_add : C__law_add P w K mg base cm tb) (G__law_check_solution : C__law_check_solution P w K mg base cm tb) (G__law_draw : C__law_draw P w K mg base cm tb) (G__law_equal : C__law_equal P w K mg base cm tb) (G__law_linear_case : C__law_linear_case P w K mg base cm tb) (G__law_reduce : C__law_reduce P w K mg base cm tb) (G__law_small : C__law_small P w K mg base cm tb) (G_solve_linear : C_solve_linear P w K mg base cm tb) (hb : ∀ g : Rng, g.Ok → ∃ Z', bb_law (envLM 15) ⟨g, []⟩ = .rt (.d (.bl true)) Z') (F : FunD K "law" "law" (defArgs s_law) (defBody s_law) (defScope s_law) (d_law.dvs K) (d_law.kws K) (He.ga K "law") fd) : ∀ {s : Shared} {H : Hp} {us : List Value} {vs : List V} {Q : VK} {E : XK}, Room 15 callerA → Env0 P w K mg base callerA [] s H → BindsTo s fd ⟨us, []⟩ ((["_law_script"] : List Str).zip us) → Vals vs us → spLaw K tb vs H Q E → codeAny (model P w) callerA (.call (.ref (He.ga K "law")) ⟨us, []⟩) (CR (L2N.CX P w) [] P w H s Q E) s := by
  have sc := sc_law
  obtain ⟨fdS, GS, bS⟩ := GS
  intro sx Hx usx vsx Qx Ex
  refine law_runM (A := callerA) (cm := cm) (tb := tb) (k := 14) F sc bb_law (by decide) rfl (fun cdv s H E hr => ps_set (i := 1) sc.nd rfl (by first | exact Or.inl rfl | exact Or.inr rfl) (pe_call GS (rmd hr) rfl T.D__law_source.g T.D__law_source.k bS .nil passN (pa_cons (pv 0) pa_nil))) (fun cdv s H E H1 r c hcd hr => ?_) hb
  have hu : (callerA.deeper (envOfC "law" (defScope s_law) s.heap.objs.size (He.ga K "law") cdv)).units + 65 < cLine := by
    have := hr.un
    omega
  have tk : L2N.Takes (cxOf (L2N.CX P w) P w K mg base ["_law_script", "_law_rng", "_law_turn", "_law_my_rows", "_law_my_targets", "_law_twice", "_law_late", "_law_answer", "_law_found", "_law_argument", "_law_text", "_law_pos", "_law_k", "_law_row", "_law_x"] "law" (defScope s_law) (He.ga K "law") cdv callerA [] s H E) (fun c dd _ H' => E c dd H') := L2N.takes_of rfl rfl rfl rfl
  have hp : PassesOwn (model P w) (callerA.deeper (envOfC "law" (defScope s_law) s.heap.objs.size (He.ga K "law") cdv)) (envOfC "law" (defScope s_law) s.heap.objs.size (He.ga K "law") cdv) (cxOf (L2N.CX P w) P w K mg base ["_law_script", "_law_rng", "_law_turn", "_law_my_rows", "_law_my_targets", "_law_twice", "_law_late", "_law_answer", "_law_found", "_law_argument", "_law_text", "_law_pos", "_law_k", "_law_row", "_law_x"] "law" (defScope s_law) (He.ga K "law") cdv callerA [] s H E).xe := passes_of rfl
  exact (dmss_cons (dms_for (i := 2) (fun h1 h2 => ps_for hp rfl h1 (pg_name (i := 2) sc.nd rfl (by first | exact Or.inl rfl | exact Or.inr rfl)) h2) (dmi_range rfl T.n_range (dm_lift (xe := false) (fun _ _ => de_int) (fun h => nomatch h))) (dmss_cons (dms_unp (is := [3, 4]) (fun h => ps_asg h (pg_tup rfl (pgs_cons (pg_name (i := 3) sc.nd rfl (by first | exact Or.inl rfl | exact Or.inr rfl)) (pgs_cons (pg_name (i := 4) sc.nd rfl (by first | exact Or.inl rfl | exact Or.inr rfl)) pgs_nil)))) (dm_lift (xe := false) (fun _ _ => (dCallG (i := 1) (G__law_linear_case.cal bd__law_linear_case) (rmd hr) T.D__law_linear_case.g T.D__law_linear_case.k (pv 1) da_nil)) (fun h => nomatch h)))
    (dmss_cons (dms_set (i := 9) (fun h => ps_sT sc.nd h) (dm_lift (xe := false) (fun _ _ => (de_ofF (df_lst (fun h => pe_lst h) (da_cons (by exact de_ofF (dLcE (own := [("_law_row", 13)]) (vs := [13]) sc.nd (blkOk_by (own := [("_law_row", 13)]) (N := ["_law_script", "_law_rng", "_law_turn", "_law_my_rows", "_law_my_targets", "_law_twice", "_law_late", "_law_answer", "_law_found", "_law_argument", "_law_text", "_law_pos", "_law_k", "_law_row", "_law_x"]) (sc := defScope s_law) (by decide +kernel)) (di_seq (dV 3)) (by decide) (fun _ _ _ _ _ => (dNm 13 sc.nd)) (fun _ _ _ _ _ => dts_nil) (fun _ _ _ _ _ => (dListE T.n_list (da_cons (dV 13) da_nil))))) (da_cons (dListE T.n_list (da_cons (dV 4) da_nil)) da_nil))))) (fun h => nomatch h)))
    (dmss_cons (dms_set (i := 7) (fun h => ps_sT sc.nd h) (dm_liftT (xe := false) (fun _ _ => by exact (dCallT (G_solve_linear.cal bd_solve_linear) (rmd hr) tk T.D_solve_linear.g T.D_solve_linear.k (da_cons (dIxE (dV 9) de_int) (da_cons (dIxE (dV 9) de_int) da_nil)))) (fun h => nomatch h)))
    (dmss_cons (dms_if (dmt_bor (xe := false) (fun _ _ => (DW.pt (dw_or (dNeT (dV 9) (de_ofF (df_lst (fun h => pe_lst h) (da_cons (dV 3) (da_cons (dV 4) da_nil)))) hu) (dw_or (dt_not (dt_val (dIsiE .tTup T.n_isinstance T.n_tuple (dV 7)))) (dw_or (dNeT (dLenE T.n_len (da_cons (dV 7) da_nil)) de_int hu) (dw_or1 (dt_not (dt_val (dIsiE .tList T.n_isinstance T.n_list (dIxE (dV 7) de_int)))))))))) (fun h => nomatch h)) (dmss_one (dms_ret (dm_lift (xe := false) (fun _ _ => de_bl) (fun h => nomatch h)))) dmss_nil)
    (dmss_cons (dms_if (dmt_bor (xe := false) (fun _ _ => (DW.pt (dw_or (dNotInT (dIxE (dV 7) de_int) (dTupE (da_cons de_str (da_cons de_str da_nil))) hu) (dw_or1 (dt_not (dt_val (dCallE (G__law_check_solution.cal bd__law_check_solution) (rmd hr) tk T.D__law_check_solution.g T.D__law_check_solution.k (da_cons (dV 3) (da_cons (dV 4) (da_cons (dV 7) da_nil)))))))))) (fun h => nomatch h)) (dmss_one (dms_ret (dm_lift (xe := false) (fun _ _ => de_bl) (fun h => nomatch h)))) dmss_nil)
    (dmss_cons (dms_if (dmt_bor (xe := false) (fun _ _ => (dt_not (dt_val (dAllE T.n_all (da_cons (by exact de_ofF (dLcE (own := [("_law_x", 14)]) (vs := [14]) sc.nd (blkOk_by (own := [("_law_x", 14)]) (N := ["_law_script", "_law_rng", "_law_turn", "_law_my_rows", "_law_my_targets", "_law_twice", "_law_late", "_law_answer", "_law_found", "_law_argument", "_law_text", "_law_pos", "_law_k", "_law_row", "_law_x"]) (sc := defScope s_law) (by decide +kernel)) (di_seq (dIxE (dV 7) de_int)) (by decide) (fun _ _ _ _ _ => (dNm 14 sc.nd)) (fun _ _ _ _ _ => dts_nil) (fun _ _ _ _ _ => (dCallE (G__law_equal.cal bd__law_equal) (rmd hr) takes0N T.D__law_equal.g T.D__law_equal.k (da_cons (dV 14) (da_cons (dCallE (G__law_reduce.cal bd__law_reduce) (rmd hr) takes0N T.D__law_reduce.g T.D__law_reduce.k (da_cons (dIxE (dV 14) de_int) (da_cons (dIxE (dV 14) de_int) da_nil))) da_nil)))))) da_nil))))) (fun h => nomatch h)) (dmss_one (dms_ret (dm_lift (xe := false) (fun _ _ => de_bl) (fun h => nomatch h)))) dmss_nil)
    (dmss_cons (dms_set (i := 10) (fun h => ps_sT sc.nd h) (dm_bor (xe := false) (fun _ _ => (dReprE (rmd hr) T.n_repr (dV 7))) (fun h => nomatch h)))
    (dmss_cons (dms_expr (dm_app (fun h1 h2 => pe_bm PySem.F.plainAttrs_list PySem.F.slot_list_append PySem.F.type_list_append mt_append h1 (pa_cons h2 pa_nil)) (dm_ix (dm_var (pv 7)) (dm_lift (xe := false) (fun _ _ => de_int) (fun h => nomatch h)) ix_seq (by exact fun _ _ => rfl)) (dm_lift (xe := false) (fun _ _ => de_int) (fun h => nomatch h))))
    (dmss_one (dms_if (dmt_lift (xe := false) (fun _ _ => (dNeT (dReprE (rmd hr) T.n_repr (dCallN0 (ks := ["targets", "rows"]) (G_solve_linear.ofT ot_solve_linear) (rmd hr) tk T.D_solve_linear.g T.D_solve_linear.k (fun _ F => kb_1 F) (fun _ _ => .nil) (fun _ _ => .nil) (dk_cons (dTupleE T.n_tuple (da_cons (dV 4) da_nil)) (dk_cons (by exact de_ofF (dLcE (own := [("_law_row", 13)]) (vs := [13]) sc.nd (blkOk_by (own := [("_law_row", 13)]) (N := ["_law_script", "_law_rng", "_law_turn", "_law_my_rows", "_law_my_targets", "_law_twice", "_law_late", "_law_answer", "_law_found", "_law_argument", "_law_text", "_law_pos", "_law_k", "_law_row", "_law_x"]) (sc := defScope s_law) (by decide +kernel)) (di_seq (dV 3)) (by decide) (fun _ _ _ _ _ => (dNm 13 sc.nd)) (fun _ _ _ _ _ => dts_nil) (fun _ _ _ _ _ => (dTupleE T.n_tuple (da_cons (dV 13) da_nil))))) dk_nil)))) (dV 10) hu)) (fun h => nomatch h)) (dmss_one (dms_ret (dm_lift (xe := false) (fun _ _ => de_bl) (fun h => nomatch h)))) dmss_nil)))))))))))
    (dmss_lift2 [3] (fun _ _ => (dSetLcF (i := 3) (own := [("_law_pos", 11)]) (vs := [11]) sc.nd (blkOk_by (own := [("_law_pos", 11)]) (N := ["_law_script", "_law_rng", "_law_turn", "_law_my_rows", "_law_my_targets", "_law_twice", "_law_late", "_law_answer", "_law_found", "_law_argument", "_law_text", "_law_pos", "_law_k", "_law_row", "_law_x"]) (sc := defScope s_law) (by decide +kernel)) (di_range1 rfl T.n_range (da_cons de_int da_nil) (by rfl) alen1) (by decide) (fun _ _ _ _ _ => (dNm 11 sc.nd)) (fun _ _ _ _ _ => dts_nil) (fun _ _ _ _ _ => (by exact de_ofF (dLcE (own := [("_law_k", 12)]) (vs := [12]) sc.nd (blkOk_by (own := [("_law_k", 12)]) (N := ["_law_script", "_law_rng", "_law_turn", "_law_my_rows", "_law_my_targets", "_law_twice", "_law_late", "_law_answer", "_law_found", "_law_argument", "_law_text", "_law_pos", "_law_k", "_law_row", "_law_x"]) (sc := relS _ (defScope s_law)) (by decide +kernel)) (di_range1 rfl T.n_range (da_cons de_int da_nil) (by rfl) alen1) (by decide) (fun _ _ _ _ _ => (dNm 12 sc.nd)) (fun _ _ _ _ _ => dts_nil) (fun _ _ _ _ _ => (dTupE (da_cons (dIntOfE T.n_int (da_cons (dEqE (dV 12) (dV 11) hu) da_nil)) (da_cons de_int da_nil))))))))) (fun _ _ => (ds_setI (i := 3) (fun h hk => ps_asg h (pg_sub (pv 3) hk set_list)) (by exact de_ofF (dLcE (own := [("_law_k", 12)]) (vs := [12]) sc.nd (blkOk_by (own := [("_law_k", 12)]) (N := ["_law_script", "_law_rng", "_law_turn", "_law_my_rows", "_law_my_targets", "_law_twice", "_law_late", "_law_answer", "_law_found", "_law_argument", "_law_text", "_law_pos", "_law_k", "_law_row", "_law_x"]) (sc := defScope s_law) (by decide +kernel)) (di_range1 rfl T.n_range (da_cons de_int da_nil) (by rfl) alen1) (by decide) (fun _ _ _ _ _ => (dNm 12 sc.nd)) (fun _ _ _ _ _ => dts_nil) (fun _ _ _ _ _ => (dTupE (da_cons (dAddE de_int (dCallG (i := 1) (G__law_draw.cal bd__law_draw) (rmd hr) T.D__law_draw.g T.D__law_draw.k (pv 1) (da_cons de_int da_nil))) (da_cons de_int da_nil)))))) (dCallG (i := 1) (G__law_draw.cal bd__law_draw) (rmd hr) T.D__law_draw.g T.D__law_draw.k (pv 1) (da_cons de_int da_nil))))
    (dmss_cons (dms_lcL (i := 4) (xe := false) (fun h => nomatch h) (fun _ _ => by exact lcAsg (own := [("_law_row", 13)]) (vs := [13]) sc.nd (blkOk_by (own := [("_law_row", 13)]) (N := ["_law_script", "_law_rng", "_law_turn", "_law_my_rows", "_law_my_targets", "_law_twice", "_law_late", "_law_answer", "_law_found", "_law_argument", "_law_text", "_law_pos", "_law_k", "_law_row", "_law_x"]) (sc := defScope s_law) (by decide +kernel)) (di_seq (dV 3)) (by decide) (fun _ _ _ _ _ => (dNm 13 sc.nd)) (fun _ _ _ _ _ => dts_nil) (fun _ _ _ _ _ => (dCallG (i := 1) (G__law_small.cal bd__law_small) (rmd hr) T.D__law_small.g T.D__law_small.k (pv 1) da_nil))))
    (dmss_cons (dms_if (dmt_lift (xe := false) (fun _ _ => (dt_not (dt_val (dCallE (G__law_check_solution.cal bd__law_check_solution) (rmd hr) tk T.D__law_check_solution.g T.D__law_check_solution.k (da_cons (dV 3) (da_cons (dV 4) (da_cons (dCallE ((G_solve_linear.ofT ot_solve_linear).cal bd_solve_linear) (rmd hr) tk T.D_solve_linear.g T.D_solve_linear.k (da_cons (dV 3) (da_cons (dV 4) da_nil))) da_nil))))))) (fun h => nomatch h)) (dmss_one (dms_ret (dm_lift (xe := false) (fun _ _ => de_bl) (fun h => nomatch h)))) dmss_nil)
    (dmss_cons (dms_set (i := 5) (fun h => ps_sT sc.nd h) (dm_lift (xe := false) (fun _ _ => (dAddE (dSlE (dV 3) dp_no (dp_at de_int)) (de_ofF (df_lst (fun h => pe_lst h) (da_cons (dIxE (dV 3) de_int) da_nil))))) (fun h => nomatch h)))
    (dmss_cons (dms_set (i := 6) (fun h => ps_sT sc.nd h) (dm_lift (xe := false) (fun _ _ => (dAddE (dSlE (dV 4) dp_no (dp_at de_int)) (de_ofF (df_lst (fun h => pe_lst h) (da_cons (dCallE (G__law_add.cal bd__law_add) (rmd hr) tk T.D__law_add.g T.D__law_add.k (da_cons (dIxE (dV 4) de_int) (da_cons (dTupE (da_cons de_int (da_cons de_int da_nil))) da_nil))) da_nil))))) (fun h => nomatch h)))
    (dmss_cons (dms_set (i := 7) (fun h => ps_sT sc.nd h) (dm_lift (xe := false) (fun _ _ => (dCallE ((G_solve_linear.ofT ot_solve_linear).cal bd_solve_linear) (rmd hr) tk T.D_solve_linear.g T.D_solve_linear.k (da_cons (dV 5) (da_cons (dV 6) da_nil)))) (fun h => nomatch h)))
    (dmss_cons (dms_if (dmt_bor (xe := false) (fun _ _ => (DW.pt (dw_or (dNeT (dIxE (dV 7) de_int) de_str hu) (dw_or1 (dt_not (dt_val (dCallE (G__law_check_solution.cal bd__law_check_solution) (rmd hr) tk T.D__law_check_solution.g T.D__law_check_solution.k (da_cons (dV 5) (da_cons (dV 6) (da_cons (dV 7) da_nil)))))))))) (fun h => nomatch h)) (dmss_one (dms_ret (dm_lift (xe := false) (fun _ _ => de_bl) (fun h => nomatch h)))) dmss_nil)
    (dmss_cons (dms_set (i := 8) (fun h => ps_sT sc.nd h) (dm_lift (xe := false) (fun _ _ => (de_ofF (df_lst (fun h => pe_lst h) (da_cons (dCallE ((G_solve_linear.ofT ot_solve_linear).cal bd_solve_linear) (rmd hr) tk T.D_solve_linear.g T.D_solve_linear.k (da_cons (de_ofF (df_lst (fun h => pe_lst h) da_nil)) (da_cons (de_ofF (df_lst (fun h => pe_lst h) da_nil)) da_nil))) (da_cons (dCallE ((G_solve_linear.ofT ot_solve_linear).cal bd_solve_linear) (rmd hr) tk T.D_solve_linear.g T.D_solve_linear.k (da_cons (de_ofF (df_lst (fun h => pe_lst h) (da_cons (de_ofF (df_lst (fun h => pe_lst h) da_nil)) da_nil))) (da_cons (de_ofF (df_lst (fun h => pe_lst h) (da_cons (dTupE (da_cons de_int (da_cons de_int da_nil))) da_nil))) da_nil))) (da_cons (dIxE (dCallE ((G_solve_linear.ofT ot_solve_linear).cal bd_solve_linear) (rmd hr) tk T.D_solve_linear.g T.D_solve_linear.k (da_cons (de_ofF (df_lst (fun h => pe_lst h) (da_cons (de_ofF (df_lst (fun h => pe_lst h) da_nil)) da_nil))) (da_cons (de_ofF (df_lst (fun h => pe_lst h) (da_cons (dTupE (da_cons de_int (da_cons de_int da_nil))) da_nil))) da_nil))) de_int) da_nil)))))) (fun h => nomatch h)))
    (dmss_one (dms_ret (dm_lift (xe := false) (fun _ _ => (dCallE (G__law_equal.cal bd__law_equal) (rmd hr) tk T.D__law_equal.g T.D__law_equal.k (da_cons (dV 8) (da_cons (de_ofF (df_lst (fun h => pe_lst h) (da_cons (dTupE (da_cons de_str (da_cons (de_ofF (df_lst (fun h => pe_lst h) da_nil)) da_nil))) (da_cons (dTupE (da_cons de_str (da_cons (de_ofF (df_lst (fun h => pe_lst h) da_nil)) da_nil))) (da_cons de_str da_nil))))) da_nil)))) (fun h => nomatch h)))))))))))))
end
theorem law_at {l : PySem.W.OpenLaw} {w : World} {mg : Str → Option Value} {fa0 : Addr} {h : Heap} (Y : hk.says w h) (G : h.Ns mainGlobals mg) (hfa : mg "law" = some (.ref fa0)) : ∃ K : PySem.W.Frag, K.In h ∧ LawG l w K 15 mg fa0 := by
  obtain ⟨K, KX, c⟩ := Y
  have e := hfa.symm.trans (He.glo_ok KX G (c.t.d.fact 22 (f := .glo "law") rfl))
  cases e
  have r_ZERO : ∀ H A, Rep ⟨K, (fun _ => none), []⟩ H A k_ZERO (.ref (He.ga K "ZERO")) := rep_tupB (ex_at c.more 0) fun _ _ => .cons (.int_ _) (.cons (.int_ _) (.nil))
  have r_ONE : ∀ H A, Rep ⟨K, (fun _ => none), []⟩ H A k_ONE (.ref (He.ga K "ONE")) := rep_tupB (ex_at c.more 1) fun _ _ => .cons (.int_ _) (.cons (.int_ _) (.nil))
  have T : Txt K mg (fun _ => none) [] := {
    D_gcd := td KX G c.t.d 0 rfl rfl,
    D_fraction := td KX G c.t.d 1 rfl rfl,
    D_subtract := td KX G c.t.d 2 rfl rfl,
    D_multiply := td KX G c.t.d 3 rfl rfl,
    D_divide := td KX G c.t.d 4 rfl rfl,
    D_check_shape := td KX G c.t.d 5 rfl rfl,
    D_subtract_multiple := td KX G c.t.d 6 rfl rfl,
    D_scaled := td KX G c.t.d 7 rfl rfl,
    D_pivot := td KX G c.t.d 8 rfl rfl,
    D_unit_row := td KX G c.t.d 9 rfl rfl,
    D_solve_linear := td KX G c.t.d 10 rfl rfl,
    D__law_source := td KX G c.t.d 11 rfl rfl,
    D__law_draw := td KX G c.t.d 12 rfl rfl,
    D__law_choice := td KX G c.t.d 13 rfl rfl,
    D__law_equal := td KX G c.t.d 14 rfl rfl,
    D__law_reduce := td KX G c.t.d 15 rfl rfl,
    D__law_add := td KX G c.t.d 16 rfl rfl,
    D__law_multiply := td KX G c.t.d 17 rfl rfl,
    D__law_sum := td KX G c.t.d 18 rfl rfl,
    D__law_small := td KX G c.t.d 19 rfl rfl,
    D__law_linear_case := td KX G c.t.d 20 rfl rfl,
    D__law_check_solution := td KX G c.t.d 21 rfl rfl,
    D_law := td KX G c.t.d 22 rfl rfl,
    n_abs := He.free_ok KX G (c.t.d.fact 23 (f := .free "abs") rfl),
    n_all := He.free_ok KX G (c.t.d.fact 24 (f := .free "all") rfl),
    n_bool := He.free_ok KX G (c.t.d.fact 25 (f := .free "bool") rfl),
    n_enumerate := He.free_ok KX G (c.t.d.fact 26 (f := .free "enumerate") rfl),
    n_int := He.free_ok KX G (c.t.d.fact 27 (f := .free "int") rfl),
    n_isinstance := He.free_ok KX G (c.t.d.fact 28 (f := .free "isinstance") rfl),
    n_len := He.free_ok KX G (c.t.d.fact 29 (f := .free "len") rfl),
    n_list := He.free_ok KX G (c.t.d.fact 30 (f := .free "list") rfl),
    n_range := He.free_ok KX G (c.t.d.fact 31 (f := .free "range") rfl),
    n_repr := He.free_ok KX G (c.t.d.fact 32 (f := .free "repr") rfl),
    n_str := He.free_ok KX G (c.t.d.fact 33 (f := .free "str") rfl),
    n_tuple := He.free_ok KX G (c.t.d.fact 34 (f := .free "tuple") rfl),
    n_zip := He.free_ok KX G (c.t.d.fact 35 (f := .free "zip") rfl),
    g_ZERO := He.glo_ok KX G (c.t.d.fact 36 (f := .glo "ZERO") rfl), r_ZERO := r_ZERO,
    g_ONE := He.glo_ok KX G (c.t.d.fact 37 (f := .glo "ONE") rfl), r_ONE := r_ONE }
  obtain ⟨fd, F⟩ := T.D_law.F
  refine ⟨K, KX, fd, fun s u => F.bindsA (ps := ["_law_script"]) (fun _ _ _ _ _ _ us hl => match us, hl with | [_], _ => rfl) s [u] rfl, fun base kb nb => ?_⟩
  have G__law_source : Cal l.prog w K mg base 1 (He.ga K "_law_source") ["_law_script"] (spSrc K) := ok__law_source T
  have G_gcd := ok_gcd (P := l.prog) (w := w) (base := base) T
  have G_fraction := ok_fraction (P := l.prog) (w := w) (base := base) T G_gcd
  have G_subtract := ok_subtract (P := l.prog) (w := w) (base := base) T G_fraction
  have G_multiply := ok_multiply (P := l.prog) (w := w) (base := base) T G_fraction
  have G_divide := ok_divide (P := l.prog) (w := w) (base := base) T G_fraction
  have G_check_shape := ok_check_shape (P := l.prog) (w := w) (base := base) T
  have G_subtract_multiple := ok_subtract_multiple (P := l.prog) (w := w) (base := base) T G_multiply G_subtract
  have G_scaled := ok_scaled (P := l.prog) (w := w) (base := base) T G_divide
  have G_pivot := ok_pivot (P := l.prog) (w := w) (base := base) T G_scaled G_subtract_multiple
  have G_unit_row := ok_unit_row (P := l.prog) (w := w) (base := base) T
  have G_solve_linear := ok_solve_linear (P := l.prog) (w := w) (base := base) T G_check_shape G_pivot G_unit_row
  have G__law_draw := ok__law_draw (P := l.prog) (w := w) (base := base) T
  have G__law_choice := ok__law_choice (P := l.prog) (w := w) (base := base) T G__law_draw
  have G__law_equal := ok__law_equal (P := l.prog) (w := w) (base := base) T
  have G__law_reduce := ok__law_reduce (P := l.prog) (w := w) (base := base) T
  have G__law_add := ok__law_add (P := l.prog) (w := w) (base := base) T G__law_reduce
  have G__law_multiply := ok__law_multiply (P := l.prog) (w := w) (base := base) T G__law_reduce
  have G__law_sum := ok__law_sum (P := l.prog) (w := w) (base := base) T G__law_add
  have G__law_small := ok__law_small (P := l.prog) (w := w) (base := base) T G__law_choice G__law_draw G__law_reduce
  have G__law_linear_case := ok__law_linear_case (P := l.prog) (w := w) (base := base) T G__law_add G__law_choice G__law_draw G__law_multiply G__law_small G__law_sum
  have G__law_check_solution := ok__law_check_solution (P := l.prog) (w := w) (base := base) T G__law_multiply G__law_sum
  intro sx Hx usx vsx Qx Ex
  exact ok_law T G__law_source G__law_add G__law_check_solution G__law_draw G__law_equal G__law_linear_case G__law_reduce G__law_small G_solve_linear law_true F
end LW
theorem PySem.Challenge.cw_gaithold_k19_whole_linear_equations_holds : PySem.Challenge.rw_gaithold_k19_whole_linear_equations.Holds := by
  exact LW.head_of fun Y G e => LW.law_at Y G e
